import PyProof.Rows.All
import HandS.ForMost
import HandS.ForExc
import HandS.ExcInit
import HandS.Deep
import HandS.Wide
import HandS.Conv
import HandS.IsInst
import HandS.WideBits
import HandS.Style
import KE.KExcInit
import HandS.ExcField
import HandS.ExcIs
import HandS.OwnEq
import KE.KExcIs
import HandS.ExcValue
import PyProof.ReprRoads
import HandS.EndBits
import KE.KStateDown
import HandS.Head0
import HandS.Head1
import HandS.Head2
import HandS.HeadHook1
import HandS.HeadHook2
import PySem.Challenge.RW_fademodes_k19_errors_and_their_classes
set_option Elab.async false
set_option linter.all false
set_option autoImplicit false
set_option maxRecDepth 100000
/-! DL, part a: data by value, where it lies, and that this lasts. -/
namespace DL
open PySem L2

/-- data by value; loc n: a thing that may change, the n-th of the store -/
inductive D where
  | non
  | bl (b : Bool)
  | int (i : Int)
  | str (x : Str)
  | ty (n : String)
  | lst (xs : List D)
  | scr (xs : List D)
  | tup (xs : List D)
  | dic (kvs : List (Key × D))
  | ins (c : Nat) (fs : List (Str × D))
  | exc (c : Nat) (fs : List (Str × D))
  | cls (c : Nat)
  | ref (a : Addr)
  | loc (n : Nat)
  deriving Inhabited

/-- things that may change -/
inductive MO where
  | lst (xs : List D)
  | dic (kvs : List (Key × D))
  | ins (c : Nat) (fs : List (Str × D))
abbrev Store := List (Option MO)
abbrev Env := List (Option D)

/-- the written part, and the addresses of the program's own classes -/
structure Tab where
  K : PySem.W.Frag
  cl : Nat → Addr
abbrev tb (X : Cx) (c : Nat → Addr) : Tab := ⟨X.K, c⟩

/-- where data lies: the part of the heap that stays, and the addresses of the store -/
structure Wd where
  g : Hp
  f : List Addr

mutual
inductive Rep (T : Tab) (Z : Wd) : D → V → Prop where
  | non : Rep T Z .non .non
  | bl (b : Bool) : Rep T Z (.bl b) (.bl b)
  | int (i : Int) : Rep T Z (.int i) (.int i)
  | str (x : Str) : Rep T Z (.str x) (.str x)
  | ty (n : String) : Rep T Z (.ty n) (.ty n)
  | lst {a : Addr} {vs : List V} {ds : List D} : Z.g a = some (.lst vs) → Reps T Z ds vs → Rep T Z (.lst ds) (.ref a)
  | scr {a : Addr} {vs : List V} {ds : List D} : SqL T.K Z.g a vs → Reps T Z ds vs → Rep T Z (.scr ds) (.ref a)
  | tup {a : Addr} {vs : List V} {ds : List D} : SqT T.K Z.g a vs → Reps T Z ds vs → Rep T Z (.tup ds) (.ref a)
  | dic {a : Addr} {kvs : List (Key × V)} {kds : List (Key × D)} : Z.g a = some (.dK kvs) → RepK T Z kds kvs → Rep T Z (.dic kds) (.ref a)
  | ins {a dx : Addr} {c : Nat} {fs : List (Str × V)} {ds : List (Str × D)} : Z.g a = some (.ins (T.cl c) dx fs) → RepF T Z ds fs → Rep T Z (.ins c ds) (.ref a)
  | exc {a dx : Addr} {c : Nat} {fs : List (Str × V)} {ds : List (Str × D)} : Z.g a = some (L2.exo a (T.cl c) (some dx)) → Z.g dx = some (L2.exd dx fs) → RepF T Z ds fs → Rep T Z (.exc c ds) (.ref a)
  | exc0 {a : Addr} {c : Nat} : Z.g a = some (L2.exo a (T.cl c) none) → Rep T Z (.exc c []) (.ref a)
  | cls (c : Nat) : Rep T Z (.cls c) (.ref (T.cl c))
  | ref (a : Addr) : Rep T Z (.ref a) (.ref a)
  | loc {n : Nat} {a : Addr} : Z.f[n]? = some a → Rep T Z (.loc n) (.ref a)
inductive Reps (T : Tab) (Z : Wd) : List D → List V → Prop where
  | nil : Reps T Z [] []
  | cons {d : D} {v : V} {ds : List D} {vs : List V} : Rep T Z d v → Reps T Z ds vs → Reps T Z (d :: ds) (v :: vs)
inductive RepF (T : Tab) (Z : Wd) : List (Str × D) → List (Str × V) → Prop where
  | nil : RepF T Z [] []
  | cons {x : Str} {d : D} {v : V} {ds : List (Str × D)} {vs : List (Str × V)} : Rep T Z d v → RepF T Z ds vs → RepF T Z ((x, d) :: ds) ((x, v) :: vs)
inductive RepK (T : Tab) (Z : Wd) : List (Key × D) → List (Key × V) → Prop where
  | nil : RepK T Z [] []
  | cons {x : Key} {d : D} {v : V} {ds : List (Key × D)} {vs : List (Key × V)} : Rep T Z d v → RepK T Z ds vs → RepK T Z ((x, d) :: ds) ((x, v) :: vs)
end

/-- what lies so may lie so further on -/
structure Le (Z Z' : Wd) : Prop where
  g : Same Z.g Z'.g
  f : ∀ (n : Nat) (a : Addr), Z.f[n]? = some a → Z'.f[n]? = some a
theorem Le.refl (Z : Wd) : Le Z Z := ⟨Same.refl _, fun _ _ h => h⟩
theorem Le.trans {A B C : Wd} (x : Le A B) (y : Le B C) : Le A C := ⟨x.g.trans y.g, fun n a h => y.f n a (x.f n a h)⟩
theorem Same.sqt {T : Tab} {H H' : Hp} {a : Addr} {xs : List V} (e : Same H H') (h : SqT T.K H a xs) : SqT T.K H' a xs := by
  rcases h with (h | ⟨o, h⟩) | h
  · exact .inl (.inl (e _ _ h))
  · exact .inl (.inr ⟨o, e _ _ h⟩)
  · exact .inr h

mutual
theorem Rep.mono {T : Tab} {Z Z' : Wd} (l : Le Z Z') : ∀ {d : D} {v : V}, Rep T Z d v → Rep T Z' d v
  | _, _, .non => .non
  | _, _, .bl b => .bl b
  | _, _, .int i => .int i
  | _, _, .str x => .str x
  | _, _, .ty n => .ty n
  | _, _, .lst h r => .lst (l.g _ _ h) (Reps.mono l r)
  | _, _, .scr h r => .scr (Same.seq l.g h) (Reps.mono l r)
  | _, _, .tup h r => .tup (Same.sqt l.g h) (Reps.mono l r)
  | _, _, .dic h r => .dic (l.g _ _ h) (RepK.mono l r)
  | _, _, .ins h r => .ins (l.g _ _ h) (RepF.mono l r)
  | _, _, .exc h h' r => .exc (l.g _ _ h) (l.g _ _ h') (RepF.mono l r)
  | _, _, .exc0 h => .exc0 (l.g _ _ h)
  | _, _, .cls c => .cls c
  | _, _, .ref a => .ref a
  | _, _, .loc h => .loc (l.f _ _ h)
theorem Reps.mono {T : Tab} {Z Z' : Wd} (l : Le Z Z') : ∀ {d : List D} {v : List V}, Reps T Z d v → Reps T Z' d v
  | _, _, .nil => .nil
  | _, _, .cons h r => .cons (Rep.mono l h) (Reps.mono l r)
theorem RepF.mono {T : Tab} {Z Z' : Wd} (l : Le Z Z') : ∀ {d : List (Str × D)} {v : List (Str × V)}, RepF T Z d v → RepF T Z' d v
  | _, _, .nil => .nil
  | _, _, .cons h r => .cons (Rep.mono l h) (RepF.mono l r)
theorem RepK.mono {T : Tab} {Z Z' : Wd} (l : Le Z Z') : ∀ {d : List (Key × D)} {v : List (Key × V)}, RepK T Z d v → RepK T Z' d v
  | _, _, .nil => .nil
  | _, _, .cons h r => .cons (Rep.mono l h) (RepK.mono l r)
end

theorem Reps.length {T : Tab} {Z : Wd} : ∀ {d : List D} {v : List V}, Reps T Z d v → d.length = v.length
  | _, _, .nil => rfl
  | _, _, .cons _ r => by rw [List.length_cons, List.length_cons, Reps.length r]
theorem Reps.get {T : Tab} {Z : Wd} : ∀ {d : List D} {v : List V} {i : Nat} {x : D}, Reps T Z d v → d[i]? = some x → ∃ y, v[i]? = some y ∧ Rep T Z x y
  | _, _, _, _, .nil, e => by simp at e
  | _, _, 0, _, .cons h _, e => by
    simp at e
    subst e
    exact ⟨_, rfl, h⟩
  | _, _, i + 1, _, .cons _ r, e => by
    obtain ⟨y, h1, h2⟩ := Reps.get (i := i) r (by simpa using e)
    exact ⟨y, by simpa using h1, h2⟩
theorem Reps.getV {T : Tab} {Z : Wd} : ∀ {d : List D} {v : List V} {i : Nat} {y : V}, Reps T Z d v → v[i]? = some y → ∃ x, d[i]? = some x ∧ Rep T Z x y
  | _, _, _, _, .nil, e => by simp at e
  | _, _, 0, _, .cons h _, e => by
    simp at e
    subst e
    exact ⟨_, rfl, h⟩
  | _, _, i + 1, _, .cons _ r, e => by
    obtain ⟨y, h1, h2⟩ := Reps.getV (i := i) r (by simpa using e)
    exact ⟨y, by simpa using h1, h2⟩
theorem Reps.append {T : Tab} {Z : Wd} : ∀ {d e : List D} {v w : List V}, Reps T Z d v → Reps T Z e w → Reps T Z (d ++ e) (v ++ w)
  | _, _, _, _, .nil, h => h
  | _, _, _, _, .cons h r, q => .cons h (Reps.append r q)
theorem Reps.set {T : Tab} {Z : Wd} {x : D} {y : V} (q : Rep T Z x y) : ∀ {d : List D} {v : List V} (i : Nat), Reps T Z d v → Reps T Z (d.set i x) (v.set i y)
  | _, _, _, .nil => .nil
  | _, _, 0, .cons _ r => .cons q r
  | _, _, i + 1, .cons h r => .cons h (Reps.set q i r)
theorem RepF.look {T : Tab} {Z : Wd} {f : Str} : ∀ {d : List (Str × D)} {v : List (Str × V)} {x : D}, RepF T Z d v → d.lookup f = some x → ∃ y, v.lookup f = some y ∧ Rep T Z x y
  | _, _, _, .nil, e => by simp at e
  | _, _, x, .cons (x := g) (d := d0) (v := v0) h r, e => by
    rw [List.lookup_cons] at e ⊢
    cases q : f == g with
    | true =>
      rw [q] at e
      have e' : d0 = x := Option.some.inj e
      subst e'
      exact ⟨v0, rfl, h⟩
    | false =>
      rw [q] at e
      exact RepF.look r e
theorem RepF.lookN {T : Tab} {Z : Wd} {f : Str} : ∀ {d : List (Str × D)} {v : List (Str × V)}, RepF T Z d v → d.lookup f = none → v.lookup f = none
  | _, _, .nil, _ => rfl
  | _, _, .cons (x := g) h r, e => by
    rw [List.lookup_cons] at e ⊢
    cases q : f == g with
    | true =>
      rw [q] at e
      cases e
    | false =>
      rw [q] at e
      exact RepF.lookN r e

/-! ### the store -/
inductive RepM (T : Tab) (Z : Wd) : MO → HO → Prop where
  | lst {ds : List D} {vs : List V} : Reps T Z ds vs → RepM T Z (.lst ds) (.lst vs)
  | dic {ds : List (Key × D)} {vs : List (Key × V)} : RepK T Z ds vs → RepM T Z (.dic ds) (.dK vs)
  | ins {dx : Addr} {c : Nat} {ds : List (Str × D)} {vs : List (Str × V)} : RepF T Z ds vs → RepM T Z (.ins c ds) (.ins (T.cl c) dx vs)
theorem RepM.mono {T : Tab} {Z Z' : Wd} (l : Le Z Z') {m : MO} {o : HO} (h : RepM T Z m o) : RepM T Z' m o := by
  cases h with
  | lst h => exact .lst (h.mono l)
  | dic h => exact .dic (h.mono l)
  | ins h => exact .ins (h.mono l)

structure Good (T : Tab) (Z : Wd) (H : Hp) (μ : Store) : Prop where
  sub : Same Z.g H
  len : Z.f.length = μ.length
  inj : Z.f.Nodup
  there : ∀ a ∈ Z.f, H a ≠ none
  obj : ∀ (n : Nat) (a : Addr) (m : MO), Z.f[n]? = some a → μ[n]? = some (some m) → Z.g a = none ∧ ∃ o, H a = some o ∧ RepM T Z m o
def Slots (T : Tab) (Z : Wd) (ρ : Env) (σ : St) : Prop := ρ.length = σ.length ∧ ∀ (i : Nat) (d : D), ρ[i]? = some (some d) → ∃ v, σ[i]? = some (some v) ∧ Rep T Z d v
theorem Slots.mono {T : Tab} {Z Z' : Wd} {ρ : Env} {σ : St} (l : Le Z Z') (h : Slots T Z ρ σ) : Slots T Z' ρ σ := ⟨h.1, fun i d e => by
  obtain ⟨v, h1, h2⟩ := h.2 i d e
  exact ⟨v, h1, h2.mono l⟩⟩
theorem Slots.set {T : Tab} {Z : Wd} {ρ : Env} {σ : St} {x : D} {v : V} (h : Slots T Z ρ σ) (q : Rep T Z x v) (i : Nat) : Slots T Z (ρ.set i (some x)) (σ.set i (some v)) := by
  refine ⟨by simp [h.1], fun j d e => ?_⟩
  by_cases hj : i = j
  · subst hj
    by_cases hl : i < ρ.length
    · rw [List.getElem?_set_self hl] at e
      cases e
      exact ⟨v, by rw [List.getElem?_set_self (by rw [← h.1]; exact hl)], q⟩
    · rw [List.getElem?_eq_none (by simp; omega)] at e
      cases e
  · rw [List.getElem?_set_ne hj] at e ⊢
    exact h.2 j d e
theorem Slots.wipe {T : Tab} {Z : Wd} {ρ : Env} {σ : St} (h : Slots T Z ρ σ) (i : Nat) : Slots T Z (ρ.set i none) σ := by
  refine ⟨by simp [h.1], fun j d e => ?_⟩
  by_cases hj : i = j
  · subst hj
    by_cases hl : i < ρ.length
    · rw [List.getElem?_set_self hl] at e
      cases e
    · rw [List.getElem?_eq_none (by simp; omega)] at e
      cases e
  · rw [List.getElem?_set_ne hj] at e
    exact h.2 j d e

/-- a new thing that stays -/
def Wd.add (Z : Wd) (p : Addr) (o : HO) : Wd := ⟨upd Z.g p o, Z.f⟩
theorem Le.add {Z : Wd} {p : Addr} {o : HO} (h : Z.g p = none) : Le Z (Z.add p o) := ⟨fun b u e => by
  show upd Z.g p o b = some u
  rw [upd_ne (ne_of_none e h)]
  exact e, fun _ _ h => h⟩
theorem Good.free {T : Tab} {Z : Wd} {H : Hp} {μ : Store} (g : Good T Z H μ) {p : Addr} (h : H p = none) : Z.g p = none := g.sub.free h
theorem Good.add {T : Tab} {Z : Wd} {H : Hp} {μ : Store} (g : Good T Z H μ) {p : Addr} (o : HO) (h : H p = none) : Good T (Z.add p o) (upd H p o) μ := by
  have l : Le Z (Z.add p o) := Le.add (g.free h)
  refine ⟨fun b u e => ?_, g.len, g.inj, fun a ha z => ?_, fun n a m e1 e2 => ?_⟩
  · by_cases hb : b = p
    · subst hb
      have e' : upd Z.g b o b = some u := e
      rw [upd_same] at e' ⊢
      exact e'
    · have e' : upd Z.g p o b = some u := e
      rw [upd_ne hb] at e' ⊢
      exact g.sub b u e'
  · by_cases hb : a = p
    · rw [hb, upd_same] at z
      cases z
    · rw [upd_ne hb] at z
      exact g.there a ha z
  · obtain ⟨h0, u, h1, h2⟩ := g.obj n a m e1 e2
    have ne : a ≠ p := ne_of_none h1 h
    refine ⟨?_, u, ?_, h2.mono l⟩
    · show upd Z.g p o a = none
      rw [upd_ne ne]
      exact h0
    · rw [upd_ne ne]
      exact h1
/-- what goes on: data stays where it lies, and what is tracked but not of the store stays as it is -/
structure Step (Z : Wd) (H : Hp) (Z' : Wd) (H' : Hp) : Prop where
  le : Le Z Z'
  fr : ∀ a o, H a = some o → a ∉ Z.f → H' a = some o ∧ a ∉ Z'.f ∧ (Z.g a = none → Z'.g a = none)
theorem Step.rfl {Z : Wd} {H : Hp} : Step Z H Z H := ⟨Le.refl Z, fun _ _ h n => ⟨h, n, fun z => z⟩⟩
theorem Step.trans {A B C : Wd} {H H1 H2 : Hp} (x : Step A H B H1) (y : Step B H1 C H2) : Step A H C H2 := ⟨x.le.trans y.le, fun a o h n =>
  have z := x.fr a o h n
  have y := y.fr a o z.1 z.2.1
  ⟨y.1, y.2.1, fun q => y.2.2 (z.2.2 q)⟩⟩
theorem Step.add {T : Tab} {Z : Wd} {H : Hp} {μ : Store} (g : Good T Z H μ) {p : Addr} {o : HO} (h : H p = none) : Step Z H (Z.add p o) (upd H p o) := ⟨Le.add (g.free h), fun a u e n => ⟨by
  rw [upd_ne (ne_of_none e h)]
  exact e, n, fun q => by
    show upd Z.g p o a = none
    rw [upd_ne (ne_of_none e h)]
    exact q⟩⟩
/-- a new thing that may change -/
def Wd.put (Z : Wd) (p : Addr) : Wd := ⟨Z.g, Z.f ++ [p]⟩
theorem Le.put {Z : Wd} {p : Addr} : Le Z (Z.put p) := ⟨Same.refl _, fun n a e => by
  show (Z.f ++ [p])[n]? = some a
  obtain ⟨h, e'⟩ := List.getElem?_eq_some_iff.mp e
  rw [List.getElem?_append_left h]
  exact e⟩
theorem Step.put {Z : Wd} {H : Hp} {p : Addr} {o : HO} (h : H p = none) : Step Z H (Z.put p) (upd H p o) := ⟨Le.put, fun a u e n => by
  have ne := ne_of_none e h
  refine ⟨by rw [upd_ne ne]; exact e, fun hm => ?_, fun q => q⟩
  have hm' : a ∈ Z.f ++ [p] := hm
  rcases List.mem_append.mp hm' with q | q
  · exact n q
  · exact ne (List.mem_singleton.mp q)⟩
/-- a tracked thing that is not of the store comes to what stays -/
theorem Good.adopt {T : Tab} {Z : Wd} {H : Hp} {μ : Store} (g : Good T Z H μ) {p : Addr} {o : HO} (h : H p = some o) (hf : p ∉ Z.f) (hg : Z.g p = none) : Le Z (Z.add p o) ∧ Good T (Z.add p o) H μ := by
  have l : Le Z (Z.add p o) := Le.add hg
  refine ⟨l, fun b u e => ?_, g.len, g.inj, g.there, fun n a m e1 e2 => ?_⟩
  · by_cases hb : b = p
    · subst hb
      have e' : upd Z.g b o b = some u := e
      rw [upd_same] at e'
      rw [h]
      exact e'
    · have e' : upd Z.g p o b = some u := e
      rw [upd_ne hb] at e'
      exact g.sub b u e'
  · obtain ⟨h0, u, h1, h2⟩ := g.obj n a m e1 e2
    have ne : a ≠ p := fun z => hf (z ▸ List.mem_of_getElem? e1)
    refine ⟨?_, u, h1, h2.mono l⟩
    show upd Z.g p o a = none
    rw [upd_ne ne]
    exact h0
/-- a tracked thing that is neither of the store nor of what stays is changed -/
theorem Good.over {T : Tab} {Z : Wd} {H : Hp} {μ : Store} (g : Good T Z H μ) {p : Addr} (o : HO) (hf : p ∉ Z.f) (hg : Z.g p = none) : Good T Z (upd H p o) μ := by
  refine ⟨fun b u e => ?_, g.len, g.inj, fun a ha z => ?_, fun n a m e1 e2 => ?_⟩
  · rw [upd_ne (ne_of_none e hg)]
    exact g.sub b u e
  · have ne : a ≠ p := fun q => hf (q ▸ ha)
    rw [upd_ne ne] at z
    exact g.there a ha z
  · obtain ⟨h0, u, h1, h2⟩ := g.obj n a m e1 e2
    have ne : a ≠ p := fun z => hf (z ▸ List.mem_of_getElem? e1)
    exact ⟨h0, u, by rw [upd_ne ne]; exact h1, h2⟩
end DL

set_option Elab.async false
set_option linter.all false
set_option autoImplicit false
set_option maxRecDepth 100000
/-! DL, part b: results, readings of results, names, constants, operators. -/
namespace DL
open PySem L2

inductive Res (α : Type) where
  | ok (a : α) (μ : Store)
  | exc (C : Nat) (fs : List (Str × D)) (μ : Store)
  | bad
def Res.bind {α β : Type} (r : Res α) (f : α → Store → Res β) : Res β := match r with
  | .ok a μ => f a μ
  | .exc C fs μ => .exc C fs μ
  | .bad => .bad
def ofO {α : Type} (o : Option α) (μ : Store) : Res α := match o with
  | some a => .ok a μ
  | none => .bad

/-- an exception's own dict -/
def ExcAt (T : Tab) (Z : Wd) (H : Hp) (fs : List (Str × D)) : Option Addr → Prop
  | none => fs = []
  | some dx => ∃ vs, H dx = some (.xd vs) ∧ RepF T Z fs vs

def post {α β : Type} (T : Tab) (R : Wd → α → β → Prop) (W : WX) (Z : Wd) (H : Hp) (σ : St) (r : Res α) (Q : β → Hp → Prop) : Prop := match r with
  | .ok d μ => ∀ Z' H' v, Step Z H Z' H' → Good T Z' H' μ → R Z' d v → Q v H'
  | .exc C fs μ => ∀ Z' H' dx, Step Z H Z' H' → Good T Z' H' μ → ExcAt T Z' H' fs dx → W (.ref (T.cl C)) dx σ H'
  | .bad => False
theorem post_st {α β : Type} {T : Tab} {R : Wd → α → β → Prop} {W : WX} {Z Z' : Wd} {H H' : Hp} {σ : St} {r : Res α} {Q : β → Hp → Prop} (l : Step Z H Z' H') (h : post T R W Z H σ r Q) : post T R W Z' H' σ r Q := by
  cases r with
  | ok d μ => exact fun Z2 H2 v l2 => h Z2 H2 v (l.trans l2)
  | exc C fs μ => exact fun Z2 H2 v l2 => h Z2 H2 v (l.trans l2)
  | bad => exact h
theorem post_bind {α β γ δ : Type} {T : Tab} {R : Wd → α → β → Prop} {R2 : Wd → γ → δ → Prop} {W : WX} {Z : Wd} {H : Hp} {σ : St} {r : Res α} {f : α → Store → Res γ} {Q : δ → Hp → Prop} (h : post T R2 W Z H σ (r.bind f) Q) :
    post T R W Z H σ r (fun v H' => ∃ Z' d μ, Step Z H Z' H' ∧ Good T Z' H' μ ∧ R Z' d v ∧ post T R2 W Z' H' σ (f d μ) Q) := by
  cases r with
  | ok d μ => exact fun Z2 H2 v l g q => ⟨Z2, d, μ, l, g, q, post_st l h⟩
  | exc C fs μ => exact h
  | bad => exact h
theorem post_mono {α β : Type} {T : Tab} {R : Wd → α → β → Prop} {W : WX} {Z : Wd} {H : Hp} {σ : St} {r : Res α} {Q Q' : β → Hp → Prop} (h : post T R W Z H σ r Q) (q : ∀ v H, Q v H → Q' v H) : post T R W Z H σ r Q' := by
  cases r with
  | ok d μ => exact fun Z2 H2 v l g r => q v H2 (h Z2 H2 v l g r)
  | exc C fs μ => exact h
  | bad => exact h
def EqB (_ : Wd) (a b : Bool) : Prop := a = b

abbrev DenE := Env → Store → Res D
abbrev DenA := Env → Store → Res (List D)
abbrev DenT := Env → Store → Res Bool
def rdG {α β : Type} (T : Tab) (R : Wd → α → β → Prop) (W : WX) (δ : Env → Store → Res α) : St → Hp → (β → Hp → Prop) → Prop := fun σ H Q =>
  ∃ Z ρ μ, Good T Z H μ ∧ Slots T Z ρ σ ∧ post T R W Z H σ (δ ρ μ) Q
abbrev rdE (T : Tab) (W : WX) (δ : DenE) : TE := rdG T (Rep T) W δ
abbrev rdA (T : Tab) (W : WX) (δ : DenA) : TA := rdG T (Reps T) W δ
abbrev rdT (T : Tab) (W : WX) (δ : DenT) : TT := rdG T EqB W δ
theorem rd_at {α β : Type} {T : Tab} {R : Wd → α → β → Prop} {W : WX} {δ : Env → Store → Res α} {σ : St} {H : Hp} {Q : β → Hp → Prop} {Z : Wd} {ρ : Env} {μ : Store} (g : Good T Z H μ) (s : Slots T Z ρ σ) (h : post T R W Z H σ (δ ρ μ) Q) : rdG T R W δ σ H Q := ⟨Z, ρ, μ, g, s, h⟩
/-- one thing, then what hangs on it -/
theorem rd_then {α β γ δ : Type} {T : Tab} {R : Wd → α → β → Prop} {R2 : Wd → γ → δ → Prop} {W : WX} {δa : Env → Store → Res α} {f : Env → α → Store → Res γ} {σ : St} {H : Hp} {Q : δ → Hp → Prop}
    (h : rdG T R2 W (fun ρ μ => (δa ρ μ).bind (f ρ)) σ H Q) : rdG T R W δa σ H (fun v H1 => ∃ Z ρ d μ, Good T Z H1 μ ∧ Slots T Z ρ σ ∧ R Z d v ∧ post T R2 W Z H1 σ (f ρ d μ) Q) := by
  obtain ⟨Z, ρ, μ, g, s, h⟩ := h
  exact ⟨Z, ρ, μ, g, s, post_mono (post_bind h) fun v H1 ⟨Z', d, μ', l, g', r, q⟩ => ⟨Z', ρ, d, μ', g', s.mono l.le, r, q⟩⟩

theorem PE.imp {X : Cx} {e : Expr} {t t' : TE} (h : PE X e t) (i : ∀ σ H Q, t' σ H Q → t σ H Q) : PE X e t' := ⟨fun pins s σ H Q I w => h.run pins s σ H Q I (i σ H Q w)⟩
theorem PT.imp {X : Cx} {e : Expr} {t t' : TT} (h : PT X e t) (i : ∀ σ H Q, t' σ H Q → t σ H Q) : PT X e t' := ⟨fun pins s σ H Q I w => h.run pins s σ H Q I (i σ H Q w)⟩
theorem PW.imp {X : Cx} {e : Expr} {t t' : TT} (h : PW X e t) (i : ∀ σ H Q, t' σ H Q → t σ H Q) : PW X e t' := ⟨fun wh pins s σ H Q I w => h.run wh pins s σ H Q I (i σ H Q w)⟩
theorem PA.imp {X : Cx} {e : List Expr} {t t' : TA} (h : PA X e t) (i : ∀ σ H Q, t' σ H Q → t σ H Q) : PA X e t' := ⟨fun pos pins s σ H Q I w => h.run pos pins s σ H Q I (i σ H Q w)⟩
theorem PS.imp {X : Cx} {e : Stmt} {t t' : TS} (h : PS X e t) (i : ∀ D σ H, t' D σ H → t D σ H) : PS X e t' := ⟨fun pins s σ H D I w => h.run pins s σ H D I (i D σ H w)⟩
theorem PSs.imp {X : Cx} {e : List Stmt} {t t' : TS} (h : PSs X e t) (i : ∀ D σ H, t' D σ H → t D σ H) : PSs X e t' := ⟨fun pins s σ H D I w => h.run pins s σ H D I (i D σ H w)⟩

/-! ### names and constants -/
def dVar (i : Nat) : DenE := fun ρ μ => match ρ[i]? with
  | some (some d) => .ok d μ
  | _ => .bad
def dC (d : D) : DenE := fun _ μ => .ok d μ
section
variable {X : Cx} {c : Nat → Addr} {W : WX} {pos : Pos}
theorem de_var {i : Nat} {x : Str} (hN : X.N[i]? = some x) (hv : Vis X.env.scope x) (hd : (x == ("__debug__" : Str)) = false) (hcd : (x == ("__classdict__" : Str)) = false) : PE X (.Name x pos) (rdE (tb X c) W (dVar i)) := by
  refine PE.imp (pe_var hN hv hd hcd) fun σ H Q ⟨Z, ρ, μ, g, s, h⟩ => ?_
  unfold dVar at h
  split at h
  · rename_i d e
    obtain ⟨v, h1, h2⟩ := s.2 i d e
    exact ⟨v, h1, h Z H v Step.rfl g h2⟩
  · exact False.elim h
theorem de_c {e : Expr} {d : D} {v : V} (h : PE X e (tC v)) (r : ∀ Z, Rep (tb X c) Z d v) : PE X e (rdE (tb X c) W (dC d)) :=
  PE.imp h fun σ H Q ⟨Z, ρ, μ, g, s, q⟩ => q Z H v Step.rfl g (r Z)
theorem de_int {i : Int} {j : Nat} : PE X (.Constant (.int i) j pos) (rdE (tb X c) W (dC (.int i))) := de_c pe_int fun _ => .int i
theorem de_bl {b : Bool} {j : Nat} : PE X (.Constant (.bool b) j pos) (rdE (tb X c) W (dC (.bl b))) := de_c pe_bl fun _ => .bl b
theorem de_non {j : Nat} : PE X (.Constant .none j pos) (rdE (tb X c) W (dC .non)) := de_c pe_non fun _ => .non
theorem de_str {x : Str} {j : Nat} : PE X (.Constant (.str x) j pos) (rdE (tb X c) W (dC (.str x))) := de_c pe_str fun _ => .str x
end

/-! ### operators -/
abbrev Op2 := D → D → Store → Option D
def rdO (T : Tab) (o : Op2) : R2 := fun x y H Q => ∃ Z μ dx dy d, Good T Z H μ ∧ Rep T Z dx x ∧ Rep T Z dy y ∧ o dx dy μ = some d ∧ ∀ Z' H' v, Step Z H Z' H' → Good T Z' H' μ → Rep T Z' d v → Q v H'
theorem OpR.imp {X : Cx} {f : Value → Value → Sem Value} {r r' : R2} (h : OpR X f r) (i : ∀ x y H Q, r' x y H Q → r x y H Q) : OpR X f r' := fun pins s σ H x y v u Q I r1 r2 w => h pins s σ H x y v u Q I r1 r2 (i x y H Q w)
def dBin (o : Op2) (δa δb : DenE) : DenE := fun ρ μ => (δa ρ μ).bind fun x μ1 => (δb ρ μ1).bind fun y μ2 => ofO (o x y μ2) μ2
theorem rd_bin {T : Tab} {W : WX} {o : Op2} {δa δb : DenE} {σ : St} {H : Hp} {Q : VK} (h : rdE T W (dBin o δa δb) σ H Q) : tOp (rdO T o) (rdE T W δa) (rdE T W δb) σ H Q := by
  have h1 := rd_then (R := Rep T) (f := fun ρ x μ1 => (δb ρ μ1).bind fun y μ2 => ofO (o x y μ2) μ2) h
  obtain ⟨Z, ρ, μ, g, s, h1⟩ := h1
  refine ⟨Z, ρ, μ, g, s, post_mono h1 fun x H1 ⟨Z1, ρ1, dx, μ1, g1, s1, rx, q1⟩ => ?_⟩
  refine ⟨Z1, ρ1, μ1, g1, s1, post_mono (post_bind (R := Rep T) q1) fun y H2 ⟨Z2, dy, μ2, l2, g2, ry, q2⟩ => ?_⟩
  unfold ofO at q2
  cases e : o dx dy μ2 with
  | none =>
    rw [e] at q2
    exact False.elim q2
  | some d =>
    rw [e] at q2
    exact ⟨Z2, μ2, dx, dy, d, g2, rx.mono l2.le, ry, e, q2⟩
section
variable {X : Cx} {c : Nat → Addr} {W : WX} {pos : Pos} {a b : Expr} {δa δb : DenE} {o : Op2}
theorem de_bin {op : Operator} (ho : OpR X (binaryOp op) (rdO (tb X c) o)) (ha : PE X a (rdE (tb X c) W δa)) (hb : PE X b (rdE (tb X c) W δb)) : PE X (.BinOp a op b pos) (rdE (tb X c) W (dBin o δa δb)) :=
  PE.imp (pe_op ho ha hb) fun _ _ _ h => rd_bin h
theorem de_cmp {op : CmpOp} (ho : OpR X (compareOp op) (rdO (tb X c) o)) (ha : PE X a (rdE (tb X c) W δa)) (hb : PE X b (rdE (tb X c) W δb)) (hm : behindInMarks op b = false) : PE X (.Compare a [op] [b] pos) (rdE (tb X c) W (dBin o δa δb)) :=
  PE.imp (pe_cmpR ho ha hb hm) fun _ _ _ h => rd_bin h
end
/-- two rules for one operator -/
def orO (o o' : Op2) : Op2 := fun x y μ => match o x y μ with
  | some d => some d
  | none => o' x y μ
theorem rdO_or {T : Tab} {X : Cx} {f : Value → Value → Sem Value} {o o' : Op2} (h : OpR X f (rdO T o)) (h' : OpR X f (rdO T o')) : OpR X f (rdO T (orO o o')) := by
  refine OpR.imp (OpR.or h h') fun x y H Q ⟨Z, μ, dx, dy, d, g, r1, r2, e, q⟩ => ?_
  unfold orO at e
  cases e1 : o dx dy μ with
  | some d1 =>
    rw [e1] at e
    cases e
    exact .inl ⟨Z, μ, dx, dy, _, g, r1, r2, e1, q⟩
  | none =>
    rw [e1] at e
    exact .inr ⟨Z, μ, dx, dy, d, g, r1, r2, e, q⟩
end DL

set_option Elab.async false
set_option linter.all false
set_option autoImplicit false
set_option maxRecDepth 100000
/-! DL, part c: what operators and built-ins make of data. -/
namespace DL
open PySem L2

/-! ### looking at data -/
def asL (μ : Store) : D → Option (List D)
  | .lst xs => some xs
  | .loc n => match μ[n]? with
    | some (some (.lst xs)) => some xs
    | _ => none
  | _ => none
/-- a list or a tuple, to be read -/
def asS (μ : Store) : D → Option (List D)
  | .lst xs => some xs
  | .scr xs => some xs
  | .tup xs => some xs
  | .loc n => match μ[n]? with
    | some (some (.lst xs)) => some xs
    | _ => none
  | _ => none
section
variable {T : Tab} {Z : Wd} {H : Hp} {μ : Store} {d : D} {v : V} {ds : List D}
theorem loc_list (g : Good T Z H μ) {n : Nat} {a : Addr} (h : Z.f[n]? = some a) (e : μ[n]? = some (some (.lst ds))) : ∃ vs, H a = some (.lst vs) ∧ Reps T Z ds vs := by
  obtain ⟨_, o, h1, h2⟩ := g.obj n a _ h e
  cases h2 with
  | lst r => exact ⟨_, h1, r⟩
theorem asL_loc {n : Nat} (e : asL μ (.loc n) = some ds) : μ[n]? = some (some (.lst ds)) := by
  simp only [asL] at e
  split at e
  · rename_i xs q
    cases e
    exact q
  · cases e
theorem at_l (g : Good T Z H μ) (r : Rep T Z d v) (e : asL μ d = some ds) : ∃ a vs, v = .ref a ∧ H a = some (.lst vs) ∧ Reps T Z ds vs := by
  cases r with
  | lst h r =>
    cases e
    exact ⟨_, _, rfl, g.sub _ _ h, r⟩
  | loc h =>
    obtain ⟨vs, h1, h2⟩ := loc_list g h (asL_loc e)
    exact ⟨_, vs, rfl, h1, h2⟩
  | _ => cases e
theorem at_s (g : Good T Z H μ) (r : Rep T Z d v) (e : asS μ d = some ds) : ∃ a vs, v = .ref a ∧ (SqL T.K H a vs ∨ SqT T.K H a vs) ∧ Reps T Z ds vs := by
  cases r with
  | lst h r =>
    cases e
    exact ⟨_, _, rfl, .inl (SqL.of (g.sub _ _ h)), r⟩
  | scr h r =>
    cases e
    exact ⟨_, _, rfl, .inl (Same.seq g.sub h), r⟩
  | tup h r =>
    cases e
    exact ⟨_, _, rfl, .inr (Same.sqt g.sub h), r⟩
  | loc h =>
    rename_i n a
    obtain ⟨a', vs, h1, h2, h3⟩ := at_l (d := .loc n) g (.loc h) (show asL μ (.loc n) = some ds from e)
    exact ⟨a', vs, h1, .inl (SqL.of h2), h3⟩
  | _ => cases e
end

/-! ### two ints -/
def int2 (p : Int → Int → Bool) (f : Int → Int → D) : Op2 := fun x y _ => match x, y with
  | .int i, .int j => if p i j = true then some (f i j) else none
  | _, _ => none
theorem op_int2 {X : Cx} {c : Nat → Addr} {F : Value → Value → Sem Value} {C : Int → Int → Prop} {g : Int → Int → V} {p : Int → Int → Bool} {f : Int → Int → D} (ho : OpR X F (rI C g)) (hp : ∀ i j, p i j = true → C i j) (hr : ∀ i j Z, Rep (tb X c) Z (f i j) (g i j)) :
    OpR X F (rdO (tb X c) (int2 p f)) := by
  refine OpR.imp ho fun x y H Q ⟨Z, μ, dx, dy, d, gd, r1, r2, e, q⟩ => ?_
  unfold int2 at e
  split at e
  · rename_i i j
    cases r1
    cases r2
    by_cases hc : p i j = true
    · rw [if_pos hc] at e
      cases e
      exact ⟨i, j, rfl, rfl, hp i j hc, q Z H _ Step.rfl gd (hr i j Z)⟩
    · rw [if_neg hc] at e
      cases e
  · cases e
theorem op_int0 {X : Cx} {c : Nat → Addr} {F : Value → Value → Sem Value} {g : Int → Int → V} {f : Int → Int → D} (ho : OpR X F (rI0 g)) (hr : ∀ i j Z, Rep (tb X c) Z (f i j) (g i j)) : OpR X F (rdO (tb X c) (int2 (fun _ _ => true) f)) := by
  refine OpR.imp ho fun x y H Q ⟨Z, μ, dx, dy, d, gd, r1, r2, e, q⟩ => ?_
  unfold int2 at e
  split at e
  · rename_i i j
    cases r1
    cases r2
    rw [if_pos rfl] at e
    cases e
    exact ⟨i, j, rfl, rfl, q Z H _ Step.rfl gd (hr i j Z)⟩
  · cases e
def yes2 (_ _ : Int) : Bool := true
def addI : Op2 := int2 (fun _ _ => true) fun i j => .int (i + j)
def subI : Op2 := int2 (fun _ _ => true) fun i j => .int (i - j)
/-- a product: one factor is small, or both together have at most a million bits -/
def mulOk (i j : Int) : Bool := decide ((-(2 ^ 64) < i ∧ i < 2 ^ 64) ∨ (-(2 ^ 64) < j ∧ j < 2 ^ 64)) || decide (i.natAbs.log2 + j.natAbs.log2 < 1000000)
theorem mulOk_ok {i j : Int} (h : mulOk i j = true) : IntMulOk i j := by
  rcases Bool.or_eq_true_iff.mp h with q | q
  · exact CMul.ok (show (-(2 ^ 64) < i ∧ i < 2 ^ 64) ∨ (-(2 ^ 64) < j ∧ j < 2 ^ 64) from of_decide_eq_true q)
  · exact CMulW.ok (show i.natAbs.log2 + j.natAbs.log2 < 1000000 from of_decide_eq_true q)
def mulI : Op2 := int2 mulOk fun i j => .int (i * j)
def modI : Op2 := int2 (fun _ j => decide (0 < j)) fun i j => .int (i % j)
def divI : Op2 := int2 (fun _ j => decide (0 < j ∧ j.natAbs.log2 < 9000)) fun i j => .int (i / j)
def powI : Op2 := int2 (fun i j => decide (0 ≤ j ∧ j ≤ 1000000 ∧ i.natAbs < 2 ^ 64)) fun i j => .int (i ^ j.toNat)
def ltI : Op2 := int2 (fun _ _ => true) fun i j => .bl (decide (i < j))
def leI : Op2 := int2 (fun _ _ => true) fun i j => .bl (decide (i ≤ j))
def gtI : Op2 := int2 (fun _ _ => true) fun i j => .bl (decide (j < i))
def geI : Op2 := int2 (fun _ _ => true) fun i j => .bl (decide (j ≤ i))
section
variable {X : Cx} {c : Nat → Addr}
theorem o_addI : OpR X (binaryOp .Add) (rdO (tb X c) addI) := op_int0 op_add fun _ _ _ => .int _
theorem o_subI : OpR X (binaryOp .Sub) (rdO (tb X c) subI) := op_int0 op_sub fun _ _ _ => .int _
theorem o_mulI : OpR X (binaryOp .Mult) (rdO (tb X c) mulI) := op_int2 (C := IntMulOk) (opI fun _ _ _ _ _ _ _ hc q => PyProof.Rows.mul_int q hc) (fun _ _ h => mulOk_ok h) fun _ _ _ => .int _
theorem o_modI : OpR X (binaryOp .Mod) (rdO (tb X c) modI) := op_int2 op_mod (fun _ _ h => of_decide_eq_true h) fun _ _ _ => .int _
theorem o_divI : OpR X (binaryOp .FloorDiv) (rdO (tb X c) divI) := op_int2 op_fdivW (fun i j h => (of_decide_eq_true h : 0 < j ∧ j.natAbs.log2 < 9000)) fun _ _ _ => .int _
theorem o_powI : OpR X (binaryOp .Pow) (rdO (tb X c) powI) := op_int2 op_pow (fun i j h => (of_decide_eq_true h : 0 ≤ j ∧ j ≤ 1000000 ∧ i.natAbs < 2 ^ 64)) fun _ _ _ => .int _
theorem o_ltI : OpR X (compareOp .Lt) (rdO (tb X c) ltI) := op_int0 op_lt fun _ _ _ => .bl _
theorem o_leI : OpR X (compareOp .LtE) (rdO (tb X c) leI) := op_int0 op_le fun _ _ _ => .bl _
theorem o_gtI : OpR X (compareOp .Gt) (rdO (tb X c) gtI) := op_int0 op_gt fun _ _ _ => .bl _
theorem o_geI : OpR X (compareOp .GtE) (rdO (tb X c) geI) := op_int0 op_ge fun _ _ _ => .bl _
end

/-! ### lists and texts -/
def catL : Op2 := fun x y μ => match asL μ x, asL μ y with
  | some xs, some ys => if xs.length + ys.length ≤ sizeLine then some (.lst (xs ++ ys)) else none
  | _, _ => none
def repL : Op2 := fun x y μ => match asL μ x, y with
  | some xs, .int k => if -(2 ^ 63) ≤ k ∧ k < 2 ^ 63 ∧ xs.length * k.toNat ≤ sizeLine then some (.lst (List.replicate k.toNat xs).flatten) else none
  | _, _ => none
def addS : Op2 := fun x y _ => match x, y with
  | .str a, .str b => if a.length + b.length ≤ sizeLine then some (.str (a ++ b)) else none
  | _, _ => none
theorem Reps.flat {T : Tab} {Z : Wd} {ds : List D} {vs : List V} (r : Reps T Z ds vs) : ∀ n : Nat, Reps T Z (List.replicate n ds).flatten (List.replicate n vs).flatten
  | 0 => .nil
  | n + 1 => by
    rw [List.replicate_succ, List.replicate_succ, List.flatten_cons, List.flatten_cons]
    exact r.append (Reps.flat r n)
section
variable {X : Cx} {c : Nat → Addr}
/-- a new list that stays -/
theorem new_lst {T : Tab} {Z : Wd} {H : Hp} {μ : Store} {ds : List D} {vs : List V} {Q : VK} (g : Good T Z H μ) (r : Reps T Z ds vs) (q : ∀ Z' H' v, Step Z H Z' H' → Good T Z' H' μ → Rep T Z' (.lst ds) v → Q v H') : ∀ p, H p = none → Q (.ref p) (upd H p (.lst vs)) := fun p hp =>
  have l : Step Z H (Z.add p (.lst vs)) (upd H p (.lst vs)) := Step.add g hp
  q (Z.add p (.lst vs)) _ _ l (g.add _ hp) (.lst upd_same (r.mono l.le))
theorem new_tup {T : Tab} {Z : Wd} {H : Hp} {μ : Store} {ds : List D} {vs : List V} {Q : VK} (g : Good T Z H μ) (r : Reps T Z ds vs) (q : ∀ Z' H' v, Step Z H Z' H' → Good T Z' H' μ → Rep T Z' (.tup ds) v → Q v H') : ∀ p, H p = none → Q (.ref p) (upd H p (.tup vs)) := fun p hp =>
  have l : Step Z H (Z.add p (.tup vs)) (upd H p (.tup vs)) := Step.add g hp
  q (Z.add p (.tup vs)) _ _ l (g.add _ hp) (.tup (SqT.of upd_same) (r.mono l.le))
theorem o_catL : OpR X (binaryOp .Add) (rdO (tb X c) catL) := by
  refine OpR.imp op_cat fun x y H Q ⟨Z, μ, dx, dy, d, g, r1, r2, e, q⟩ => ?_
  simp only [catL] at e
  split at e
  · rename_i xs ys e1 e2
    obtain ⟨a, vs, h1, h2, h3⟩ := at_l g r1 e1
    obtain ⟨b, ws, k1, k2, k3⟩ := at_l g r2 e2
    split at e
    · rename_i hl
      cases e
      exact ⟨a, b, vs, ws, h1, k1, h2, k2, by rw [← h3.length, ← k3.length]; exact hl, new_lst g (h3.append k3) q⟩
    · cases e
  · cases e
theorem o_repL : OpR X (binaryOp .Mult) (rdO (tb X c) repL) := by
  refine OpR.imp op_rep fun x y H Q ⟨Z, μ, dx, dy, d, g, r1, r2, e, q⟩ => ?_
  simp only [repL] at e
  split at e
  · rename_i xs k e1
    obtain ⟨a, vs, h1, h2, h3⟩ := at_l g r1 e1
    cases r2
    split at e
    · rename_i hl
      cases e
      exact ⟨a, k, vs, h1, rfl, h2, hl.1, hl.2.1, by rw [← h3.length]; exact hl.2.2, new_lst g (h3.flat _) q⟩
    · cases e
  · cases e
theorem o_addS : OpR X (binaryOp .Add) (rdO (tb X c) addS) := by
  refine OpR.imp op_add_str fun x y H Q ⟨Z, μ, dx, dy, d, g, r1, r2, e, q⟩ => ?_
  simp only [addS] at e
  split at e
  · rename_i a b
    cases r1
    cases r2
    split at e
    · rename_i hl
      cases e
      exact ⟨a, b, rfl, rfl, hl, q Z H _ Step.rfl g (.str _)⟩
    · cases e
  · cases e
end
def addD : Op2 := orO addI (orO catL addS)
def mulD : Op2 := orO mulI repL
theorem o_add {X : Cx} {c : Nat → Addr} : OpR X (binaryOp .Add) (rdO (tb X c) addD) := rdO_or o_addI (rdO_or o_catL o_addS)
theorem o_mul {X : Cx} {c : Nat → Addr} : OpR X (binaryOp .Mult) (rdO (tb X c) mulD) := rdO_or o_mulI o_repL

/-! ### data without instances -/
mutual
def toPy : D → Option PyData
  | .non => some .none
  | .bl b => some (.bool b)
  | .int i => some (.int i)
  | .str x => some (.str x)
  | .lst xs => (toPys xs).map .list
  | .tup xs => (toPys xs).map .tuple
  | _ => none
def toPys : List D → Option (List PyData)
  | [] => some []
  | x :: xs => match toPy x, toPys xs with
    | some p, some ps => some (p :: ps)
    | _, _ => none
end
/-- the same of a thing of the store -/
def pyOf (μ : Store) (d : D) : Option PyData := match d with
  | .loc n => match asL μ (.loc n) with
    | some xs => (toPys xs).map .list
    | none => none
  | d => toPy d
mutual
theorem Rep.dp {T : Tab} {Z : Wd} {H : Hp} (s : Same Z.g H) : ∀ {d : D} {v : V} {p : PyData}, Rep T Z d v → toPy d = some p → Dp T.K H v p
  | _, _, _, .non, e => by cases e; exact .non
  | _, _, _, .bl b, e => by cases e; exact .bl b
  | _, _, _, .int i, e => by cases e; exact .int i
  | _, _, _, .str x, e => by cases e; exact .str x
  | _, _, _, .ty n, e => by cases e
  | .lst xs, _, _, .lst h r, e => by
    simp only [toPy] at e
    cases q : toPys xs with
    | none => rw [q] at e; cases e
    | some ps =>
      rw [q] at e
      cases e
      exact .lst (SqL.of (s _ _ h)) (Reps.dp s r q)
  | _, _, _, .scr h r, e => by cases e
  | .tup xs, _, _, .tup h r, e => by
    simp only [toPy] at e
    cases q : toPys xs with
    | none => rw [q] at e; cases e
    | some ps =>
      rw [q] at e
      cases e
      exact .tup (Same.sqt s h) (Reps.dp s r q)
  | _, _, _, .dic h r, e => by cases e
  | _, _, _, .ins h r, e => by cases e
  | _, _, _, .exc h h' r, e => by cases e
  | _, _, _, .exc0 h, e => by cases e
  | _, _, _, .cls a, e => by cases e
  | _, _, _, .ref a, e => by cases e
  | _, _, _, .loc h, e => by cases e
theorem Reps.dp {T : Tab} {Z : Wd} {H : Hp} (s : Same Z.g H) : ∀ {d : List D} {v : List V} {p : List PyData}, Reps T Z d v → toPys d = some p → DpAll T.K H v p
  | _, _, _, .nil, e => by cases e; exact .nil
  | x :: xs, _, _, .cons h r, e => by
    simp only [toPys] at e
    split at e
    · rename_i p ps e1 e2
      cases e
      exact .cons (Rep.dp s h e1) (Reps.dp s r e2)
    · cases e
end
theorem dp_of {T : Tab} {Z : Wd} {H : Hp} {μ : Store} {d : D} {v : V} {p : PyData} (g : Good T Z H μ) (r : Rep T Z d v) (e : pyOf μ d = some p) : Dp T.K H v p := by
  cases d with
  | loc n =>
    simp only [pyOf] at e
    split at e
    · rename_i xs q
      obtain ⟨a, vs, h1, h2, h3⟩ := at_l g r q
      subst h1
      cases w : toPys xs with
      | none => rw [w] at e; cases e
      | some ps =>
        rw [w] at e
        cases e
        exact .lst (SqL.of h2) (h3.dp g.sub w)
    · cases e
  | _ => exact r.dp g.sub e
def eqP : Op2 := fun x y μ => match pyOf μ x, pyOf μ y with
  | some p, some q => if SeqAt.shaped p = true ∧ SeqAt.shaped q = true then some (.bl (PyData.eqv p q)) else none
  | _, _ => none
def neP : Op2 := fun x y μ => match pyOf μ x, pyOf μ y with
  | some p, some q => if SeqAt.shaped p = true ∧ SeqAt.shaped q = true then some (.bl (!PyData.eqv p q)) else none
  | _, _ => none
section
variable {X : Cx} {c : Nat → Addr}
theorem o_eqP (hu : X.A.units + 64 < cLine) : OpR X (compareOp .Eq) (rdO (tb X c) eqP) := by
  refine OpR.imp (op_eqD hu) fun x y H Q ⟨Z, μ, dx, dy, d, g, r1, r2, e, q⟩ => ?_
  simp only [eqP] at e
  split at e
  · rename_i p1 p2 e1 e2
    split at e
    · rename_i hs
      cases e
      exact ⟨p1, p2, dp_of g r1 e1, dp_of g r2 e2, hs.1, hs.2, q Z H _ Step.rfl g (.bl _)⟩
    · cases e
  · cases e
theorem o_neP (hu : X.A.units + 64 < cLine) : OpR X (compareOp .NotEq) (rdO (tb X c) neP) := by
  refine OpR.imp (op_neD hu) fun x y H Q ⟨Z, μ, dx, dy, d, g, r1, r2, e, q⟩ => ?_
  simp only [neP] at e
  split at e
  · rename_i p1 p2 e1 e2
    split at e
    · rename_i hs
      cases e
      exact ⟨p1, p2, dp_of g r1 e1, dp_of g r2 e2, hs.1, hs.2, q Z H _ Step.rfl g (.bl _)⟩
    · cases e
  · cases e
end
end DL

set_option Elab.async false
set_option linter.all false
set_option autoImplicit false
set_option maxRecDepth 100000
/-! DL, part d: arguments, displays, calls of built-ins, subscripts, tests. -/
namespace DL
open PySem L2

/-! ### forms of expressions -/
def notStar : Expr → Bool
  | .Starred .. => false
  | _ => true
theorem star_cons {e : Expr} (h : notStar e = true) (es : List Expr) (env : PySem.Env) : starEach (e :: es) env = (false, eval e env) :: starEach es env := by
  cases e <;> first | rfl | cases h
theorem star_any {pos : Pos} {env : PySem.Env} : ∀ {es : List Expr}, es.all notStar = true → (backTo pos (starEach es env)).any (·.1) = false
  | [], _ => rfl
  | e :: es, h => by
    rw [List.all_cons] at h
    obtain ⟨h1, h2⟩ := Bool.and_eq_true_iff.mp h
    rw [star_cons h1]
    have ih := star_any (pos := pos) (env := env) h2
    unfold backTo at ih ⊢
    rw [List.map_cons, List.any_cons, ih]
    rfl
/-- an expression whose test is its value's truth -/
def testPlain : Expr → Bool
  | .UnaryOp .Not .. => false
  | .BoolOp .. => false
  | .IfExp .. => false
  | .Compare .. => false
  | _ => true
theorem isTrue_of {e : Expr} (h : testPlain e = true) (env : PySem.Env) (whole : Sem Value) : isTrue e env whole = (do let v ← whole; standAt e.pos; holding [v] (truthy v)) := by
  cases e with
  | UnaryOp op x p => cases op <;> first | rfl | cases h
  | _ => first | rfl | cases h
def notSlice : Expr → Bool
  | .Slice .. => false
  | _ => true
theorem plainIx_of {b : Expr} (h : notSlice b = true) : PlainIx b := by
  intro o i
  cases b <;> first | rfl | cases h
def notComp : Expr → Bool
  | .ListComp .. => false
  | .SetComp .. => false
  | .DictComp .. => false
  | _ => true
theorem swaps_of {e : Expr} (h : notComp e = true) (t : Option Expr) (l : Nat) (env : PySem.Env) : swapsWith e t l env = pure false := by
  cases e <;> first | rfl | cases h

/-! ### arguments and displays -/
def dNil : DenA := fun _ μ => .ok [] μ
def dCons (δ : DenE) (δs : DenA) : DenA := fun ρ μ => (δ ρ μ).bind fun x μ1 => (δs ρ μ1).bind fun xs μ2 => .ok (x :: xs) μ2
def kLst (xs : List D) (μ : Store) : Res D := if xs.length ≤ sizeLine then .ok (.lst xs) μ else .bad
def kTup (xs : List D) (μ : Store) : Res D := if xs.length ≤ sizeLine then .ok (.tup xs) μ else .bad
def kLstM (xs : List D) (μ : Store) : Res D := if xs.length ≤ sizeLine then .ok (.loc μ.length) (μ ++ [some (.lst xs)]) else .bad
def dLst (δs : DenA) : DenE := fun ρ μ => (δs ρ μ).bind kLst
def dTup (δs : DenA) : DenE := fun ρ μ => (δs ρ μ).bind kTup
def dLstM (δs : DenA) : DenE := fun ρ μ => (δs ρ μ).bind kLstM
theorem good_put {T : Tab} {Z : Wd} {H : Hp} {μ : Store} (g : Good T Z H μ) {p : Addr} {m : MO} {o : HO} (hp : H p = none) (r : RepM T Z m o) : Good T (Z.put p) (upd H p o) (μ ++ [some m]) := by
  have np : p ∉ Z.f := fun hm => g.there p hm hp
  · refine ⟨fun b u e => ?_, ?_, ?_, fun a ha z => ?_, fun n a m' e1 e2 => ?_⟩
    · rw [upd_ne (ne_of_none (g.sub b u e) hp)]
      exact g.sub b u e
    · show (Z.f ++ [p]).length = _
      rw [List.length_append, List.length_append, g.len, List.length_singleton, List.length_singleton]
    · show (Z.f ++ [p]).Nodup
      rw [List.nodup_append]
      refine ⟨g.inj, by simp, fun a ha b hb => ?_⟩
      rw [List.mem_singleton] at hb
      subst hb
      exact fun z => np (z ▸ ha)
    · by_cases hb : a = p
      · rw [hb, upd_same] at z
        cases z
      · rw [upd_ne hb] at z
        have ha' : a ∈ Z.f ++ [p] := ha
        rcases List.mem_append.mp ha' with q | q
        · exact g.there a q z
        · exact hb (List.mem_singleton.mp q)
    · have e1' : (Z.f ++ [p])[n]? = some a := e1
      by_cases hn : n < Z.f.length
      · rw [List.getElem?_append_left hn] at e1'
        rw [List.getElem?_append_left (by rw [← g.len]; exact hn)] at e2
        obtain ⟨h0, u, h1, h2⟩ := g.obj n a m' e1' e2
        exact ⟨h0, u, by rw [upd_ne (ne_of_none h1 hp)]; exact h1, h2.mono Le.put⟩
      · rw [List.getElem?_append_right (by omega)] at e1'
        rw [List.getElem?_append_right (by rw [← g.len]; omega)] at e2
        have q : n - Z.f.length = 0 := by
          obtain ⟨h, _⟩ := List.getElem?_eq_some_iff.mp e1'
          simp at h
          omega
        rw [q] at e1'
        rw [← g.len, q] at e2
        have ea : p = a := by simpa using e1'
        have em : m = m' := by simpa using e2
        subst ea
        subst em
        exact ⟨g.free hp, o, upd_same, r.mono Le.put⟩

section
variable {X : Cx} {c : Nat → Addr} {W : WX} {pos : Pos}
theorem da_nil : PA X [] (rdA (tb X c) W dNil) := PA.imp pa_nil fun σ H Q ⟨Z, ρ, μ, g, s, h⟩ => h Z H [] Step.rfl g .nil
theorem da_cons {e : Expr} {es : List Expr} {δ : DenE} {δs : DenA} (hs : notStar e = true) (ha : PE X e (rdE (tb X c) W δ)) (hr : PA X es (rdA (tb X c) W δs)) : PA X (e :: es) (rdA (tb X c) W (dCons δ δs)) := by
  refine PA.imp (pa_cons ha hr (star_cons hs es X.env)) fun σ H Q h => ?_
  have h1 := rd_then (R := Rep (tb X c)) (f := fun ρ x μ1 => (δs ρ μ1).bind fun xs μ2 => .ok (x :: xs) μ2) h
  obtain ⟨Z, ρ, μ, g, s, h1⟩ := h1
  refine ⟨Z, ρ, μ, g, s, post_mono h1 fun x H1 ⟨Z1, ρ1, dx, μ1, g1, s1, rx, q1⟩ => ?_⟩
  refine ⟨Z1, ρ1, μ1, g1, s1, post_mono (post_bind (R := Reps (tb X c)) q1) fun xs H2 ⟨Z2, dxs, μ2, l2, g2, rxs, q2⟩ => ?_⟩
  exact q2 Z2 H2 _ Step.rfl g2 (.cons (rx.mono l2.le) rxs)
theorem de_lst {es : List Expr} {δs : DenA} (h : PA X es (rdA (tb X c) W δs)) : PE X (.List es pos) (rdE (tb X c) W (dLst δs)) := by
  refine PE.imp (pe_lst h) fun σ H Q h => ?_
  obtain ⟨Z, ρ, μ, g, s, h1⟩ := rd_then (R := Reps (tb X c)) (f := fun _ => kLst) h
  refine ⟨Z, ρ, μ, g, s, post_mono h1 fun xs H1 ⟨Z1, ρ1, dxs, μ1, g1, s1, rx, q1⟩ => ?_⟩
  simp only [kLst, kTup, kLstM] at q1
  by_cases hl : dxs.length ≤ sizeLine
  · simp only [if_pos hl] at q1
    exact ⟨by rw [← rx.length]; exact hl, new_lst g1 rx q1⟩
  · simp only [if_neg hl] at q1
    exact False.elim q1
theorem de_tup {es : List Expr} {k : Nat} {δs : DenA} (h : PA X es (rdA (tb X c) W δs)) : PE X (.Tuple es k pos) (rdE (tb X c) W (dTup δs)) := by
  refine PE.imp (pe_tup h) fun σ H Q h => ?_
  obtain ⟨Z, ρ, μ, g, s, h1⟩ := rd_then (R := Reps (tb X c)) (f := fun _ => kTup) h
  refine ⟨Z, ρ, μ, g, s, post_mono h1 fun xs H1 ⟨Z1, ρ1, dxs, μ1, g1, s1, rx, q1⟩ => ?_⟩
  simp only [kLst, kTup, kLstM] at q1
  by_cases hl : dxs.length ≤ sizeLine
  · simp only [if_pos hl] at q1
    exact ⟨by rw [← rx.length]; exact hl, new_tup g1 rx q1⟩
  · simp only [if_neg hl] at q1
    exact False.elim q1
theorem de_lstM {es : List Expr} {δs : DenA} (h : PA X es (rdA (tb X c) W δs)) : PE X (.List es pos) (rdE (tb X c) W (dLstM δs)) := by
  refine PE.imp (pe_lst h) fun σ H Q h => ?_
  obtain ⟨Z, ρ, μ, g, s, h1⟩ := rd_then (R := Reps (tb X c)) (f := fun _ => kLstM) h
  refine ⟨Z, ρ, μ, g, s, post_mono h1 fun xs H1 ⟨Z1, ρ1, dxs, μ1, g1, s1, rx, q1⟩ => ?_⟩
  simp only [kLst, kTup, kLstM] at q1
  by_cases hl : dxs.length ≤ sizeLine
  · simp only [if_pos hl] at q1
    refine ⟨by rw [← rx.length]; exact hl, fun p hp => q1 (Z1.put p) _ _ (Step.put hp) (good_put g1 hp (.lst rx)) (.loc ?_)⟩
    show (Z1.f ++ [p])[μ1.length]? = some p
    rw [List.getElem?_append_right (by rw [g1.len]; exact Nat.le_refl _), g1.len, Nat.sub_self]
    rfl
  · simp only [if_neg hl] at q1
    exact False.elim q1
end

/-! ### calls of built-ins -/
abbrev OpN := List D → Store → Option D
def rdC (T : Tab) (o : OpN) : List V → Hp → VK → Prop := fun vs H Q => ∃ Z μ ds d, Good T Z H μ ∧ Reps T Z ds vs ∧ o ds μ = some d ∧ ∀ Z' H' v, Step Z H Z' H' → Good T Z' H' μ → Rep T Z' d v → Q v H'
theorem CallR.imp {X : Cx} {f : Value} {r r' : List V → Hp → VK → Prop} (h : CallR X f r) (i : ∀ vs H Q, r' vs H Q → r vs H Q) : CallR X f r' := fun pins s σ H vs us Q I r1 w => h pins s σ H vs us Q I r1 (i vs H Q w)
theorem CallR.or {X : Cx} {f : Value} {r r' : List V → Hp → VK → Prop} (h : CallR X f r) (h' : CallR X f r') : CallR X f (fun vs H Q => r vs H Q ∨ r' vs H Q) := fun pins s σ H vs us Q I r1 w => w.elim (h pins s σ H vs us Q I r1) (h' pins s σ H vs us Q I r1)
def dBlt (o : OpN) (δs : DenA) : DenE := fun ρ μ => (δs ρ μ).bind fun xs μ1 => ofO (o xs μ1) μ1
theorem rd_blt {T : Tab} {W : WX} {o : OpN} {δs : DenA} {σ : St} {H : Hp} {Q : VK} (h : rdE T W (dBlt o δs) σ H Q) : tCB (rdC T o) (rdA T W δs) σ H Q := by
  obtain ⟨Z, ρ, μ, g, s, h1⟩ := rd_then (R := Reps T) (f := fun _ xs μ1 => ofO (o xs μ1) μ1) h
  refine ⟨Z, ρ, μ, g, s, post_mono h1 fun xs H1 ⟨Z1, ρ1, dxs, μ1, g1, s1, rx, q1⟩ => ?_⟩
  unfold ofO at q1
  cases e : o dxs μ1 with
  | none =>
    simp only [e] at q1
    exact False.elim q1
  | some d =>
    simp only [e] at q1
    exact ⟨Z1, μ1, dxs, d, g1, rx, e, q1⟩
section
variable {X : Cx} {c : Nat → Addr} {W : WX} {pos p : Pos} {x : Str} {e : Expr} {es : List Expr} {δs : DenA} {o : OpN}
theorem de_blt {id : String} (ho : CallR X (.builtin id) (rdC (tb X c) o)) (hg : Gl X x) (hm : X.mg x = none) (hv : bootBuiltins x = some (.builtin id)) (hst : (e :: es).all notStar = true) (ha : PA X (e :: es) (rdA (tb X c) W δs))
    (hn : x ≠ "__name__") (hdb : (x == ("__debug__" : Str)) = false) : PE X (.Call (.Name x p) (e :: es) [] pos) (rdE (tb X c) W (dBlt o δs)) := by
  rw [List.all_cons] at hst
  obtain ⟨h1, h2⟩ := Bool.and_eq_true_iff.mp hst
  exact PE.imp (pe_callB ho hg hm hv ha hn hdb (star_cons h1 es X.env) (star_any h2)) fun _ _ _ h => rd_blt h
theorem de_bty {id : String} (ho : CallR X (.type id) (rdC (tb X c) o)) (hg : Gl X x) (hm : X.mg x = none) (hv : bootBuiltins x = some (.type id)) (hst : (e :: es).all notStar = true) (ha : PA X (e :: es) (rdA (tb X c) W δs))
    (hn : x ≠ "__name__") (hdb : (x == ("__debug__" : Str)) = false) : PE X (.Call (.Name x p) (e :: es) [] pos) (rdE (tb X c) W (dBlt o δs)) := by
  rw [List.all_cons] at hst
  obtain ⟨h1, h2⟩ := Bool.and_eq_true_iff.mp hst
  exact PE.imp (pe_callTy ho hg hm hv ha hn hdb (star_cons h1 es X.env) (star_any h2)) fun _ _ _ h => rd_blt h
end
def lenB : OpN := fun ds μ => match ds with
  | [d] => (asS μ d).map fun xs => .int xs.length
  | _ => none
def absB : OpN := fun ds _ => match ds with
  | [.int i] => some (.int (if i < 0 then -i else i))
  | _ => none
def max2B : OpN := fun ds _ => match ds with
  | [.int i, .int j] => some (.int (if j > i then j else i))
  | _ => none
def min2B : OpN := fun ds _ => match ds with
  | [.int i, .int j] => some (.int (if j < i then j else i))
  | _ => none
def intB : OpN := fun ds _ => match ds with
  | [.int i] => some (.int i)
  | [.bl b] => some (.int (if b then 1 else 0))
  | _ => none
def divmodB : OpN := fun ds _ => match ds with
  | [.int i, .int j] => if 0 < j ∧ j < 1073741824 then some (.tup [.int (i / j), .int (i % j)]) else none
  | _ => none
def strB : OpN := fun ds _ => match ds with
  | [.int i] => if i.natAbs.log2 < 1920 then some (.str (toString i)) else none
  | _ => none
def bools : List D → Option (List Bool)
  | [] => some []
  | .bl b :: r => (bools r).map (b :: ·)
  | _ => none
def allB : OpN := fun ds μ => match ds with
  | [d] => match asL μ d with
    | some xs => (bools xs).map fun bs => .bl (bs.all id)
    | none => none
  | _ => none
theorem reps_bools {T : Tab} {Z : Wd} : ∀ {ds : List D} {vs : List V} {bs : List Bool}, Reps T Z ds vs → bools ds = some bs → vs = bs.map V.bl
  | _, _, _, .nil, e => by cases e; rfl
  | d :: ds, _, bs, .cons h r, e => by
    cases h with
    | bl b =>
      simp only [bools] at e
      cases q : bools ds with
      | none => rw [q] at e; cases e
      | some bs' =>
        rw [q] at e
        cases e
        rw [reps_bools r q]
        rfl
    | _ => cases e
section
variable {X : Cx} {c : Nat → Addr}
theorem c_len : CallR X (.builtin "len") (rdC (tb X c) lenB) := by
  refine CallR.imp call_len_seq fun vs H Q ⟨Z, μ, ds, d, g, r, e, q⟩ => ?_
  simp only [lenB] at e
  split at e
  · rename_i d1
    cases w : asS μ d1 with
    | none => rw [w] at e; cases e
    | some xs =>
      rw [w] at e
      cases e
      cases r with
      | cons r1 r2 =>
        cases r2
        obtain ⟨a, ws, h1, h2, h3⟩ := at_s g r1 w
        subst h1
        exact ⟨a, ws, rfl, h2, q Z H _ Step.rfl g (by show Rep _ Z (D.int xs.length) _; rw [h3.length]; exact .int _)⟩
  · cases e
theorem c_abs : CallR X (.builtin "abs") (rdC (tb X c) absB) := by
  refine CallR.imp call_abs fun vs H Q ⟨Z, μ, ds, d, g, r, e, q⟩ => ?_
  simp only [absB] at e
  split at e
  · rename_i i
    cases e
    cases r with
    | cons r1 r2 =>
      cases r2
      cases r1
      exact ⟨i, rfl, q Z H _ Step.rfl g (.int _)⟩
  · cases e
theorem c_max2 (hc : X.calm = true) : CallR X (.builtin "max") (rdC (tb X c) max2B) := by
  refine CallR.imp (call_max2 hc) fun vs H Q ⟨Z, μ, ds, d, g, r, e, q⟩ => ?_
  simp only [max2B] at e
  split at e
  · rename_i i j
    cases e
    cases r with
    | cons r1 r2 =>
      cases r2 with
      | cons r2 r3 =>
        cases r3
        cases r1
        cases r2
        exact ⟨i, j, rfl, q Z H _ Step.rfl g (.int _)⟩
  · cases e
theorem c_min2 (hc : X.calm = true) : CallR X (.builtin "min") (rdC (tb X c) min2B) := by
  refine CallR.imp (call_min2 hc) fun vs H Q ⟨Z, μ, ds, d, g, r, e, q⟩ => ?_
  simp only [min2B] at e
  split at e
  · rename_i i j
    cases e
    cases r with
    | cons r1 r2 =>
      cases r2 with
      | cons r2 r3 =>
        cases r3
        cases r1
        cases r2
        exact ⟨i, j, rfl, q Z H _ Step.rfl g (.int _)⟩
  · cases e
theorem c_int : CallR X (.type "int") (rdC (tb X c) intB) := by
  refine CallR.imp call_int1 fun vs H Q ⟨Z, μ, ds, d, g, r, e, q⟩ => ?_
  simp only [intB] at e
  split at e
  · rename_i i
    cases e
    cases r with
    | cons r1 r2 =>
      cases r2
      cases r1
      exact .inl ⟨i, rfl, q Z H _ Step.rfl g (.int _)⟩
  · rename_i b
    cases e
    cases r with
    | cons r1 r2 =>
      cases r2
      cases r1
      exact .inr ⟨b, rfl, q Z H _ Step.rfl g (.int _)⟩
  · cases e
theorem c_divmod : CallR X (.builtin "divmod") (rdC (tb X c) divmodB) := by
  refine CallR.imp call_divmod fun vs H Q ⟨Z, μ, ds, d, g, r, e, q⟩ => ?_
  simp only [divmodB] at e
  split at e
  · rename_i i j
    split at e
    · rename_i hc
      cases e
      cases r with
      | cons r1 r2 =>
        cases r2 with
        | cons r2 r3 =>
          cases r3
          cases r1
          cases r2
          exact ⟨i, j, rfl, hc, new_tup g (.cons (.int _) (.cons (.int _) .nil)) q⟩
    · cases e
  · cases e
theorem c_str : CallR X (.type "str") (rdC (tb X c) strB) := by
  refine CallR.imp call_str_int fun vs H Q ⟨Z, μ, ds, d, g, r, e, q⟩ => ?_
  simp only [strB] at e
  split at e
  · rename_i i
    split at e
    · rename_i hc
      cases e
      cases r with
      | cons r1 r2 =>
        cases r2
        cases r1
        exact ⟨i, rfl, hc, q Z H _ Step.rfl g (.str _)⟩
    · cases e
  · cases e
theorem c_all (hc : X.calm = true) : CallR X (.builtin "all") (rdC (tb X c) allB) := by
  refine CallR.imp (cr_all hc) fun vs H Q ⟨Z, μ, ds, d, g, r, e, q⟩ => ?_
  simp only [allB] at e
  split at e
  · rename_i d1
    split at e
    · rename_i xs w
      cases w2 : bools xs with
      | none => rw [w2] at e; cases e
      | some bs =>
        rw [w2] at e
        cases e
        cases r with
        | cons r1 r2 =>
          cases r2
          obtain ⟨a, ws, h1, h2, h3⟩ := at_l g r1 w
          subst h1
          have hb := reps_bools h3 w2
          subst hb
          exact ⟨a, bs, rfl, SqL.of h2, q Z H _ Step.rfl g (.bl _)⟩
    · cases e
  · cases e
end

/-! ### subscripts -/
def ixD : Op2 := fun x y μ => match asS μ x, y with
  | some xs, .int i => atI xs i
  | _, _ => none
theorem Reps.atI {T : Tab} {Z : Wd} {ds : List D} {vs : List V} {i : Int} {d : D} (r : Reps T Z ds vs) (e : L2.atI ds i = some d) : ∃ v, L2.atI vs i = some v ∧ Rep T Z d v := by
  unfold L2.atI at e ⊢
  rw [← r.length]
  cases q : ixN ds.length i with
  | none => rw [q] at e; cases e
  | some j =>
    rw [q] at e
    exact r.get e
theorem IxR.imp {X : Cx} {r r' : R2} (h : IxR X r) (i : ∀ x y H Q, r' x y H Q → r x y H Q) : IxR X r' := fun value slice pins s σ H x y v u Q I r1 r2 w => h value slice pins s σ H x y v u Q I r1 r2 (i x y H Q w)
theorem i_ix {X : Cx} {c : Nat → Addr} : IxR X (rdO (tb X c) ixD) := by
  refine IxR.imp ix_seq fun x y H Q ⟨Z, μ, dx, dy, d, g, r1, r2, e, q⟩ => ?_
  simp only [ixD] at e
  split at e
  · rename_i xs i w
    cases r2
    obtain ⟨a, ws, h1, h2, h3⟩ := at_s g r1 w
    obtain ⟨v, e2, rv⟩ := h3.atI e
    rcases h2 with h2 | h2
    · exact .inl ⟨a, ws, i, v, h1, rfl, h2, e2, q Z H v Step.rfl g rv⟩
    · exact .inr (.inl ⟨a, ws, i, v, h1, rfl, h2, e2, q Z H v Step.rfl g rv⟩)
  · cases e
section
variable {X : Cx} {c : Nat → Addr} {W : WX} {pos : Pos} {a b : Expr} {δa δb : DenE}
theorem de_ix (ha : PE X a (rdE (tb X c) W δa)) (hb : PE X b (rdE (tb X c) W δb)) (hs : notSlice b = true) : PE X (.Subscript a b pos) (rdE (tb X c) W (dBin ixD δa δb)) :=
  PE.imp (pe_ix i_ix ha hb (plainIx_of hs)) fun _ _ _ h => rd_bin h
/-- -a -/
def negD : D → Option D
  | .int i => some (.int (-i))
  | _ => none
def dUn (o : D → Option D) (δ : DenE) : DenE := fun ρ μ => (δ ρ μ).bind fun x μ1 => ofO (o x) μ1
theorem de_neg (ha : PE X a (rdE (tb X c) W δa)) : PE X (.UnaryOp .USub a pos) (rdE (tb X c) W (dUn negD δa)) := by
  refine PE.imp (pe_un un_neg ha) fun σ H Q h => ?_
  obtain ⟨Z, ρ, μ, g, s, h1⟩ := rd_then (R := Rep (tb X c)) (f := fun _ x μ1 => ofO (negD x) μ1) h
  refine ⟨Z, ρ, μ, g, s, post_mono h1 fun x H1 ⟨Z1, ρ1, dx, μ1, g1, s1, rx, q1⟩ => ?_⟩
  cases rx with
  | int i => exact ⟨i, rfl, q1 Z1 H1 _ Step.rfl g1 (.int _)⟩
  | _ => exact False.elim q1
end

/-! ### tests -/
def truD (μ : Store) : D → Option Bool
  | .non => some false
  | .bl b => some b
  | .int i => some (i != 0)
  | .str x => if x.length ≤ sizeLine then some ((x.length : Int) != 0) else none
  | .dic kvs => some (!kvs.isEmpty)
  | d => (asS μ d).map fun xs => !xs.isEmpty
theorem Reps.isEmpty {T : Tab} {Z : Wd} {ds : List D} {vs : List V} (r : Reps T Z ds vs) : ds.isEmpty = vs.isEmpty := by
  cases r <;> rfl
theorem RepK.isEmpty {T : Tab} {Z : Wd} {ds : List (Key × D)} {vs : List (Key × V)} (r : RepK T Z ds vs) : ds.isEmpty = vs.isEmpty := by
  cases r <;> rfl
theorem seq_tru {T : Tab} {Z : Wd} {H : Hp} {μ : Store} {d : D} {v : V} {b : Bool} (g : Good T Z H μ) (r : Rep T Z d v) (e : ((asS μ d).map fun xs => !xs.isEmpty) = some b) : TruV T.K v H b := by
  cases w : asS μ d with
  | none => rw [w] at e; cases e
  | some xs =>
    rw [w] at e
    have e' : (!xs.isEmpty) = b := Option.some.inj e
    obtain ⟨a, ws, h1, h2, h3⟩ := at_s g r w
    subst h1
    rw [h3.isEmpty] at e'
    rcases h2 with h2 | h2
    · exact .inl ⟨ws, h2, e'.symm⟩
    · exact .inr (.inl ⟨ws, h2, e'.symm⟩)
theorem tru_of {T : Tab} {Z : Wd} {H : Hp} {μ : Store} {d : D} {v : V} {b : Bool} (g : Good T Z H μ) (r : Rep T Z d v) (e : truD μ d = some b) : TruV T.K v H b := by
  cases r with
  | non => cases e; rfl
  | bl b => cases e; rfl
  | int i => cases e; rfl
  | str x =>
    simp only [truD] at e
    split at e
    · rename_i h
      cases e
      exact ⟨h, rfl⟩
    · cases e
  | dic h r =>
    cases e
    exact .inr (.inr ⟨_, g.sub _ _ h, by rw [r.isEmpty]⟩)
  | lst h r => exact seq_tru (d := .lst _) g (.lst h r) e
  | scr h r => exact seq_tru (d := .scr _) g (.scr h r) e
  | tup h r => exact seq_tru (d := .tup _) g (.tup h r) e
  | loc h => exact seq_tru (d := .loc _) g (.loc h) e
  | ty n => cases e
  | ins h r => cases e
  | exc h h' r => cases e
  | exc0 h => cases e
  | cls a => cases e
  | ref a => cases e
def dTru (δ : DenE) : DenT := fun ρ μ => (δ ρ μ).bind fun x μ1 => ofO (truD μ1 x) μ1
def dIsB (δ : DenE) : DenT := fun ρ μ => (δ ρ μ).bind fun x μ1 => match x with
  | .bl b => .ok b μ1
  | _ => .bad
def dAndT (δ δ' : DenT) : DenT := fun ρ μ => (δ ρ μ).bind fun b μ1 => if b = true then δ' ρ μ1 else .ok false μ1
def dOrT (δ δ' : DenT) : DenT := fun ρ μ => (δ ρ μ).bind fun b μ1 => if b = true then .ok true μ1 else δ' ρ μ1
def dNotT (δ : DenT) : DenT := fun ρ μ => (δ ρ μ).bind fun b μ1 => .ok (!b) μ1
def dAndV (δ δ' : DenE) : DenE := fun ρ μ => (δ ρ μ).bind fun x μ1 => match x with
  | .bl b => if b = true then δ' ρ μ1 else .ok (.bl false) μ1
  | _ => .bad
def dOrV (δ δ' : DenE) : DenE := fun ρ μ => (δ ρ μ).bind fun x μ1 => match x with
  | .bl b => if b = true then .ok (.bl true) μ1 else δ' ρ μ1
  | _ => .bad
def dNotV (δ : DenE) : DenE := fun ρ μ => (δ ρ μ).bind fun x μ1 => match x with
  | .bl b => .ok (.bl (!b)) μ1
  | _ => .bad
def dIf (t : DenT) (δ δ' : DenE) : DenE := fun ρ μ => (t ρ μ).bind fun b μ1 => if b = true then δ ρ μ1 else δ' ρ μ1
section
variable {X : Cx} {c : Nat → Addr} {W : WX} {pos : Pos} {a b : Expr} {rest : List Expr} {δ δ' : DenE} {t t' : DenT}
theorem dt_tru (he : testPlain a = true) (h : PE X a (rdE (tb X c) W δ)) : PT X a (rdT (tb X c) W (dTru δ)) := by
  refine PT.imp (pt_truth h (isTrue_of he X.env)) fun σ H Q h => ?_
  obtain ⟨Z, ρ, μ, g, s, h1⟩ := rd_then (R := Rep (tb X c)) (f := fun _ x μ1 => ofO (truD μ1 x) μ1) h
  refine ⟨Z, ρ, μ, g, s, post_mono h1 fun x H1 ⟨Z1, ρ1, dx, μ1, g1, s1, rx, q1⟩ => ?_⟩
  cases e : truD μ1 dx with
  | none =>
    simp only [ofO, e] at q1
    exact False.elim q1
  | some b =>
    simp only [ofO, e] at q1
    exact ⟨b, tru_of g1 rx e, q1 Z1 H1 b Step.rfl g1 rfl⟩
theorem dt_cmp {op : CmpOp} {o : Op2} {δa δb : DenE} (ho : OpR X (compareOp op) (rdO (tb X c) o)) (ha : PE X a (rdE (tb X c) W δa)) (hb : PE X b (rdE (tb X c) W δb)) (hm : behindInMarks op b = false) : PT X (.Compare a [op] [b] pos) (rdT (tb X c) W (dIsB (dBin o δa δb))) := by
  refine PT.imp (pt_cmpR ho ha hb hm) fun σ H Q h => ?_
  refine rd_bin ?_
  obtain ⟨Z, ρ, μ, g, s, h1⟩ := rd_then (R := Rep (tb X c)) (f := fun _ x μ1 => (match x with
    | .bl b => .ok b μ1
    | _ => .bad : Res Bool)) h
  refine ⟨Z, ρ, μ, g, s, post_mono h1 fun x H1 ⟨Z1, ρ1, dx, μ1, g1, s1, rx, q1⟩ => ?_⟩
  cases rx with
  | bl k => exact ⟨k, rfl, q1 Z1 H1 k Step.rfl g1 rfl⟩
  | _ => exact False.elim q1
theorem post_ite {α β : Type} {T : Tab} {R : Wd → α → β → Prop} {Z : Wd} {H : Hp} {σ : St} {b : Bool} {x y : Res α} {Q : β → Hp → Prop} (h : post T R W Z H σ (if b = true then x else y) Q) : if b = true then post T R W Z H σ x Q else post T R W Z H σ y Q := by
  cases b <;> exact h
theorem dw_and1 (ha : PT X a (rdT (tb X c) W t)) : PW X (.BoolOp .And [a] pos) (rdT (tb X c) W t) := pw_and1 ha
theorem dw_or1 (ha : PT X a (rdT (tb X c) W t)) : PW X (.BoolOp .Or [a] pos) (rdT (tb X c) W t) := pw_or1 ha
theorem dw_and (ha : PT X a (rdT (tb X c) W t)) (hb : PW X (.BoolOp .And (b :: rest) pos) (rdT (tb X c) W t')) : PW X (.BoolOp .And (a :: b :: rest) pos) (rdT (tb X c) W (dAndT t t')) := by
  refine PW.imp (pw_and ha hb) fun σ H Q h => ?_
  obtain ⟨Z, ρ, μ, g, s, h1⟩ := rd_then (R := EqB) (f := fun ρ b μ1 => if b = true then t' ρ μ1 else .ok false μ1) h
  refine ⟨Z, ρ, μ, g, s, post_mono h1 fun x H1 ⟨Z1, ρ1, dx, μ1, g1, s1, rx, q1⟩ => ?_⟩
  have rx' : dx = x := rx
  subst rx'
  cases dx with
  | true => exact ⟨Z1, ρ1, μ1, g1, s1, q1⟩
  | false => exact q1 Z1 H1 false Step.rfl g1 rfl
theorem dw_or (ha : PT X a (rdT (tb X c) W t)) (hb : PW X (.BoolOp .Or (b :: rest) pos) (rdT (tb X c) W t')) : PW X (.BoolOp .Or (a :: b :: rest) pos) (rdT (tb X c) W (dOrT t t')) := by
  refine PW.imp (pw_or ha hb) fun σ H Q h => ?_
  obtain ⟨Z, ρ, μ, g, s, h1⟩ := rd_then (R := EqB) (f := fun ρ b μ1 => if b = true then .ok true μ1 else t' ρ μ1) h
  refine ⟨Z, ρ, μ, g, s, post_mono h1 fun x H1 ⟨Z1, ρ1, dx, μ1, g1, s1, rx, q1⟩ => ?_⟩
  have rx' : dx = x := rx
  subst rx'
  cases dx with
  | false => exact ⟨Z1, ρ1, μ1, g1, s1, q1⟩
  | true => exact q1 Z1 H1 true Step.rfl g1 rfl
theorem dt_not (ha : PT X a (rdT (tb X c) W t)) : PT X (.UnaryOp .Not a pos) (rdT (tb X c) W (dNotT t)) := by
  refine PT.imp (pt_not ha) fun σ H Q h => ?_
  obtain ⟨Z, ρ, μ, g, s, h1⟩ := rd_then (R := EqB) (f := fun _ b μ1 => .ok (!b) μ1) h
  refine ⟨Z, ρ, μ, g, s, post_mono h1 fun x H1 ⟨Z1, ρ1, dx, μ1, g1, s1, rx, q1⟩ => ?_⟩
  have rx' : dx = x := rx
  subst rx'
  exact q1 Z1 H1 _ Step.rfl g1 rfl
theorem de_one {op : BoolOp} (h : PE X a (rdE (tb X c) W δ)) : PE X (.BoolOp op [a] pos) (rdE (tb X c) W δ) := pe_one h
theorem de_and (ha : PE X a (rdE (tb X c) W δ)) (hb : PE X (.BoolOp .And (b :: rest) pos) (rdE (tb X c) W δ')) : PE X (.BoolOp .And (a :: b :: rest) pos) (rdE (tb X c) W (dAndV δ δ')) := by
  refine PE.imp (pe_and ha hb) fun σ H Q h => ?_
  obtain ⟨Z, ρ, μ, g, s, h1⟩ := rd_then (R := Rep (tb X c)) (f := fun ρ x μ1 => (match x with
    | .bl b => if b = true then δ' ρ μ1 else .ok (.bl false) μ1
    | _ => .bad : Res D)) h
  refine ⟨Z, ρ, μ, g, s, post_mono h1 fun x H1 ⟨Z1, ρ1, dx, μ1, g1, s1, rx, q1⟩ => ?_⟩
  cases rx with
  | bl k =>
    refine ⟨k, rfl, ?_⟩
    cases k with
    | true => exact ⟨Z1, ρ1, μ1, g1, s1, q1⟩
    | false => exact q1 Z1 H1 _ Step.rfl g1 (.bl false)
  | _ => exact False.elim q1
theorem de_or (ha : PE X a (rdE (tb X c) W δ)) (hb : PE X (.BoolOp .Or (b :: rest) pos) (rdE (tb X c) W δ')) : PE X (.BoolOp .Or (a :: b :: rest) pos) (rdE (tb X c) W (dOrV δ δ')) := by
  refine PE.imp (pe_or ha hb) fun σ H Q h => ?_
  obtain ⟨Z, ρ, μ, g, s, h1⟩ := rd_then (R := Rep (tb X c)) (f := fun ρ x μ1 => (match x with
    | .bl b => if b = true then .ok (.bl true) μ1 else δ' ρ μ1
    | _ => .bad : Res D)) h
  refine ⟨Z, ρ, μ, g, s, post_mono h1 fun x H1 ⟨Z1, ρ1, dx, μ1, g1, s1, rx, q1⟩ => ?_⟩
  cases rx with
  | bl k =>
    refine ⟨k, rfl, ?_⟩
    cases k with
    | false => exact ⟨Z1, ρ1, μ1, g1, s1, q1⟩
    | true => exact q1 Z1 H1 _ Step.rfl g1 (.bl true)
  | _ => exact False.elim q1
theorem de_not (ha : PE X a (rdE (tb X c) W δ)) : PE X (.UnaryOp .Not a pos) (rdE (tb X c) W (dNotV δ)) := by
  refine PE.imp (pe_not ha) fun σ H Q h => ?_
  obtain ⟨Z, ρ, μ, g, s, h1⟩ := rd_then (R := Rep (tb X c)) (f := fun _ x μ1 => (match x with
    | .bl b => .ok (.bl (!b)) μ1
    | _ => .bad : Res D)) h
  refine ⟨Z, ρ, μ, g, s, post_mono h1 fun x H1 ⟨Z1, ρ1, dx, μ1, g1, s1, rx, q1⟩ => ?_⟩
  cases rx with
  | bl k => exact ⟨k, rfl, q1 Z1 H1 _ Step.rfl g1 (.bl _)⟩
  | _ => exact False.elim q1
theorem de_if {e : Expr} (he : PT X e (rdT (tb X c) W t)) (ha : PE X a (rdE (tb X c) W δ)) (hb : PE X b (rdE (tb X c) W δ')) : PE X (.IfExp e a b pos) (rdE (tb X c) W (dIf t δ δ')) := by
  refine PE.imp (pe_ifExp he ha hb) fun σ H Q h => ?_
  obtain ⟨Z, ρ, μ, g, s, h1⟩ := rd_then (R := EqB) (f := fun ρ b μ1 => if b = true then δ ρ μ1 else δ' ρ μ1) h
  refine ⟨Z, ρ, μ, g, s, post_mono h1 fun x H1 ⟨Z1, ρ1, dx, μ1, g1, s1, rx, q1⟩ => ?_⟩
  have rx' : dx = x := rx
  subst rx'
  cases dx with
  | true => exact ⟨Z1, ρ1, μ1, g1, s1, q1⟩
  | false => exact ⟨Z1, ρ1, μ1, g1, s1, q1⟩
end
end DL

set_option Elab.async false
set_option linter.all false
set_option autoImplicit false
set_option maxRecDepth 100000
/-! DL, part e: what a def makes of data; its calls. No repr runs around it (guards). -/
namespace DL
open PySem L2

abbrev Mir := List D → Store → Res D
/-- a def keeps the promise sp, where no repr is running -/
structure GnOk (P : Program) (w : World) (K : PySem.W.Frag) (mg : Str → Option Value) (base : Heap) (k : Nat) (f : Addr) (fd : FuncData) (ps : List Str) (sp : Sp) : Prop where
  len : ∀ vs H Q E, sp vs H Q E → vs.length = ps.length
  run : ∀ (A : Around) (outer : List PySem.Env) (s : Shared) (H : Hp) (args : Args) (us : List Value) (vs : List V) (Q : VK) (E : XK), Room k A → A.guards = some [] → Env0 P w K mg base A outer s H →
    BindsTo s fd args (ps.zip us) → Vals vs us → sp vs H Q E → codeAny (model P w) A (.call (.ref f) args) (CR (L2.CX P w) outer P w H s Q E) s
theorem GnOk.mono {P : Program} {w : World} {K : PySem.W.Frag} {mg : Str → Option Value} {base : Heap} {j k : Nat} {f : Addr} {fd : FuncData} {ps : List Str} {sp : Sp} (F : GnOk P w K mg base j f fd ps sp) (h : j ≤ k) : GnOk P w K mg base k f fd ps sp :=
  ⟨F.len, fun A outer s H args us vs Q E hr => F.run A outer s H args us vs Q E (hr.mono h)⟩

/-- the promise: what m makes of the data -/
def spM (T : Tab) (n : Nat) (m : Mir) : Sp := fun vs H Q E => vs.length = n ∧ ∃ Z ds μ, Good T Z H μ ∧ Reps T Z ds vs ∧ post T (Rep T) (fun cls d _ H' => E cls d H') Z H [] (m ds μ) Q
theorem post_w {α β : Type} {T : Tab} {R : Wd → α → β → Prop} {W W' : WX} {Z : Wd} {H : Hp} {σ σ' : St} {r : Res α} {Q : β → Hp → Prop} (h : post T R W Z H σ r Q) (hw : ∀ cls d H, W cls d σ H → W' cls d σ' H) : post T R W' Z H σ' r Q := by
  cases r with
  | ok d μ => exact h
  | exc C fs μ => exact fun Z' H' dx l g e => hw _ _ _ (h Z' H' dx l g e)
  | bad => exact h

section
variable {X : Cx} {c : Nat → Addr} {W : WX} {pins : List (Addr × Obj)} {σ : St} {H : Hp} {s : Shared} {k n : Nat} {f : Addr} {fd : FuncData} {ps : List Str} {m : Mir} {sp : Sp}
/-- a call's end, seen from its caller -/
theorem end_of {Q : VK} {E : XK} {r : Result} {s' : Shared} (tk : Takes X W) (hW : ∀ cls d H', E cls d H' → W cls d σ H') (I : Inv X pins σ H s) (h : CR (L2.CX X.prog X.w) X.stack X.prog X.w H s Q E r s') :
    match r with
    | .ok (.ret u) => EP X pins σ Q u s'
    | .ok _ => False
    | .error e => X.xe e s' := by
  cases r with
  | error e => exact tk e s' (XE.of_call I hW h)
  | ok fl =>
    cases fl with
    | ret u => exact I.after h
    | next => exact h
    | brk => exact h
    | cont => exact h
theorem run_gn {args : Args} {us : List Value} {vs : List V} {Q : VK} (F : GnOk X.prog X.w X.K X.mg X.base k f fd ps sp) (hr : Room k X.A) (hG : X.A.guards = some []) (tk : Takes X W) (I : Inv X pins σ H s) (hb : BindsTo s fd args (ps.zip us)) (r : Vals vs us)
    (h : sp vs H Q (WE W σ)) : wpAny (model X.prog X.w) X.A (call (.ref f) args.pos args.kw) (EP X pins σ Q) X.xe s := by
  obtain ⟨pa, kw⟩ := args
  refine wpAny_call (codeAny_mono (F.run X.A X.stack s H ⟨pa, kw⟩ us vs Q (WE W σ) hr hG I.env0 hb r h) fun r s' hq => ?_)
  have z := end_of tk (fun _ _ _ q => q) I hq
  cases r with
  | error e => exact z
  | ok fl =>
    cases fl with
    | ret u => exact z
    | next => exact False.elim z
    | brk => exact False.elim z
    | cont => exact False.elim z
end
def dCall (m : Mir) (δs : DenA) : DenE := fun ρ μ => (δs ρ μ).bind m
end DL

set_option Elab.async false
set_option linter.all false
set_option autoImplicit false
set_option maxRecDepth 100000
/-! DL, part f: statements. -/
namespace DL
open PySem L2

inductive Out where
  | nx (ρ : Env) (μ : Store)
  | rt (d : D) (μ : Store)
  | bk (ρ : Env) (μ : Store)
  | ct (ρ : Env) (μ : Store)
  | exc (C : Nat) (fs : List (Str × D)) (ρ : Env) (μ : Store)
  | bad
def postS (T : Tab) (W : WX) (Z : Wd) (H : Hp) (E : Ends) (o : Out) : Prop := match o with
  | .nx ρ μ => ∀ Z' H' σ, Step Z H Z' H' → Good T Z' H' μ → Slots T Z' ρ σ → E.nx σ H'
  | .rt d μ => ∀ Z' H' v, Step Z H Z' H' → Good T Z' H' μ → Rep T Z' d v → E.rt v H'
  | .bk ρ μ => ∀ Z' H' σ, Step Z H Z' H' → Good T Z' H' μ → Slots T Z' ρ σ → E.bk σ H'
  | .ct ρ μ => ∀ Z' H' σ, Step Z H Z' H' → Good T Z' H' μ → Slots T Z' ρ σ → E.ct σ H'
  | .exc C fs ρ μ => ∀ Z' H' σ dx, Step Z H Z' H' → Good T Z' H' μ → Slots T Z' ρ σ → ExcAt T Z' H' fs dx → W (.ref (T.cl C)) dx σ H'
  | .bad => False
theorem postS_st {T : Tab} {W : WX} {Z Z' : Wd} {H H' : Hp} {E : Ends} {o : Out} (l : Step Z H Z' H') (h : postS T W Z H E o) : postS T W Z' H' E o := by
  cases o with
  | nx ρ μ => exact fun Z2 H2 v l2 => h Z2 H2 v (l.trans l2)
  | rt d μ => exact fun Z2 H2 v l2 => h Z2 H2 v (l.trans l2)
  | bk ρ μ => exact fun Z2 H2 v l2 => h Z2 H2 v (l.trans l2)
  | ct ρ μ => exact fun Z2 H2 v l2 => h Z2 H2 v (l.trans l2)
  | exc C fs ρ μ => exact fun Z2 H2 v dx l2 => h Z2 H2 v dx (l.trans l2)
  | bad => exact h
abbrev DenS := Env → Store → Out
def rdS (T : Tab) (W : WX) (δ : DenS) : TS := fun E σ H => ∃ Z ρ μ, Good T Z H μ ∧ Slots T Z ρ σ ∧ postS T W Z H E (δ ρ μ)
/-- an expression's result, then a statement's end -/
def bindS {α : Type} (r : Res α) (ρ : Env) (f : α → Store → Out) : Out := match r with
  | .ok a μ => f a μ
  | .exc C fs μ => .exc C fs ρ μ
  | .bad => .bad
theorem post_bindS {α β : Type} {T : Tab} {R : Wd → α → β → Prop} {W : WX} {Z : Wd} {H : Hp} {E : Ends} {ρ : Env} {σ : St} {r : Res α} {f : α → Store → Out} (sl : Slots T Z ρ σ) (h : postS T W Z H E (bindS r ρ f)) :
    post T R W Z H σ r (fun v H' => ∃ Z' d μ, Step Z H Z' H' ∧ Good T Z' H' μ ∧ Slots T Z' ρ σ ∧ R Z' d v ∧ postS T W Z' H' E (f d μ)) := by
  cases r with
  | ok d μ => exact fun Z2 H2 v l g q => ⟨Z2, d, μ, l, g, sl.mono l.le, q, postS_st l h⟩
  | exc C fs μ => exact fun Z2 H2 dx l g e => h Z2 H2 σ dx l g (sl.mono l.le) e
  | bad => exact h

/-! ### targets -/
abbrev DenG := D → Env → Store → Res Env
def SlotsR (T : Tab) (Z : Wd) (ρ : Env) (σ : St) : Prop := Slots T Z ρ σ
def rdTg (T : Tab) (γ : DenG) : TG := fun v σ H Q => ∃ Z ρ μ d, Good T Z H μ ∧ Slots T Z ρ σ ∧ Rep T Z d v ∧ post T (Slots T) (fun _ _ _ _ => False) Z H [] (γ d ρ μ) (fun σ' H' => Q σ' H')
def gSet (i : Nat) : DenG := fun d ρ μ => .ok (ρ.set i (some d)) μ
theorem PG.imp {X : Cx} {e : Expr} {t t' : TG} (h : PG X e t) (i : ∀ v σ H Q, t' v σ H Q → t v σ H Q) : PG X e t' := ⟨fun pins s σ H v u Q I r w => h.run pins s σ H v u Q I r (i v σ H Q w)⟩
theorem PGs.imp {X : Cx} {e : List Expr} {t t' : TGs} (h : PGs X e t) (i : ∀ v σ H Q, t' v σ H Q → t v σ H Q) : PGs X e t' := ⟨fun pins s σ H v u Q I r w => h.run pins s σ H v u Q I r (i v σ H Q w)⟩
section
variable {X : Cx} {c : Nat → Addr} {W : WX} {pos : Pos}
theorem dg_name {i : Nat} {x : Str} (hN : X.N.Nodup) (hi : X.N[i]? = some x) (hx : Loc X.env.scope x) (hf : X.fn x = true ∨ X.env.scope.names.lookup x = some .local) : PG X (.Name x pos) (rdTg (tb X c) (gSet i)) :=
  PG.imp (pg_name hN hi hx hf) fun v σ H Q ⟨Z, ρ, μ, d, g, s, r, h⟩ => h Z H _ Step.rfl g (s.set r i)
/-- several targets -/
abbrev DenGs := List D → Env → Store → Res Env
def rdTgs (T : Tab) (γ : DenGs) : TGs := fun vs σ H Q => ∃ Z ρ μ ds, Good T Z H μ ∧ Slots T Z ρ σ ∧ Reps T Z ds vs ∧ post T (Slots T) (fun _ _ _ _ => False) Z H [] (γ ds ρ μ) (fun σ' H' => Q σ' H')
def gsNil : DenGs := fun ds ρ μ => match ds with
  | [] => .ok ρ μ
  | _ => .bad
def gsCons (γ : DenG) (γs : DenGs) : DenGs := fun ds ρ μ => match ds with
  | d :: r => (γ d ρ μ).bind fun ρ1 μ1 => γs r ρ1 μ1
  | _ => .bad
theorem dgs_nil : PGs X [] (rdTgs (tb X c) gsNil) := by
  refine PGs.imp pgs_nil fun vs σ H Q ⟨Z, ρ, μ, ds, g, s, r, h⟩ => ?_
  cases r with
  | nil => exact ⟨rfl, h Z H σ Step.rfl g s⟩
  | cons _ _ => exact False.elim h
theorem each_cons {e : Expr} (h : notStar e = true) (es : List Expr) (env : PySem.Env) : assignEach (e :: es) env = (false, assign e env) :: assignEach es env := by
  cases e <;> first | rfl | cases h
theorem dgs_cons {e : Expr} {es : List Expr} {γ : DenG} {γs : DenGs} (hs : notStar e = true) (h1 : PG X e (rdTg (tb X c) γ)) (h2 : PGs X es (rdTgs (tb X c) γs)) : PGs X (e :: es) (rdTgs (tb X c) (gsCons γ γs)) := by
  refine PGs.imp (pgs_cons h1 h2 (by rw [each_cons hs]; rfl)) fun vs σ H Q ⟨Z, ρ, μ, ds, g, s, r, h⟩ => ?_
  cases r with
  | nil => exact False.elim h
  | cons r1 r2 =>
    refine ⟨_, _, rfl, Z, ρ, μ, _, g, s, r1, post_mono (post_bind (R := Slots (tb X c)) h) fun σ1 H1 ⟨Z1, ρ1, μ1, l1, g1, s1, q1⟩ => ?_⟩
    exact ⟨Z1, ρ1, μ1, _, g1, s1, r2.mono l1.le, q1⟩
/-- (a, b, ..) = a tuple -/
def gTupD (n : Nat) (γs : DenGs) : DenG := fun d ρ μ => match d with
  | .tup ds => if ds.length = n then γs ds ρ μ else .bad
  | _ => .bad
theorem each_len {env : PySem.Env} : ∀ {es : List Expr}, es.all notStar = true → (assignEach es env).length = es.length ∧ (assignEach es env).findIdx? (·.1) = none
  | [], _ => ⟨rfl, rfl⟩
  | e :: es, h => by
    rw [List.all_cons] at h
    obtain ⟨h1, h2⟩ := Bool.and_eq_true_iff.mp h
    rw [each_cons h1]
    obtain ⟨i1, i2⟩ := each_len (env := env) h2
    refine ⟨by rw [List.length_cons, List.length_cons, i1], ?_⟩
    rw [List.findIdx?_cons, i2]
    rfl
theorem dg_tup {es : List Expr} {k : Nat} {γs : DenGs} (hc : X.calm = true) (hs : es.all notStar = true) (h : PGs X es (rdTgs (tb X c) γs)) : PG X (.Tuple es k pos) (rdTg (tb X c) (gTupD es.length γs)) := by
  obtain ⟨i1, i2⟩ := each_len (env := X.env) hs
  refine PG.imp (pg_tup hc h i1 i2) fun v σ H Q ⟨Z, ρ, μ, d, g, s, r, h⟩ => ?_
  cases r with
  | @tup a vs ds hq r =>
    simp only [gTupD] at h
    by_cases hl : ds.length = es.length
    · rw [if_pos hl] at h
      exact ⟨a, vs, rfl, Same.sqt g.sub hq, by rw [← r.length]; exact hl, Z, ρ, μ, ds, g, s, r, h⟩
    · rw [if_neg hl] at h
      exact False.elim h
  | _ => exact False.elim h
/-- xs[i] = v, xs a list of the store -/
def setD (x y v : D) (μ : Store) : Option Store := match x, y with
  | .loc n, .int i => match asL μ (.loc n) with
    | some xs => (ixN xs.length i).map fun j => μ.set n (some (.lst (xs.set j v)))
    | none => none
  | _, _ => none
def gSubD (δo δi : DenE) : DenG := fun d ρ μ => (δo ρ μ).bind fun x μ1 => (δi ρ μ1).bind fun y μ2 => match setD x y d μ2 with
  | some μ3 => .ok ρ μ3
  | none => .bad
end
theorem nodup_at {l : List Addr} (h : l.Nodup) {i j : Nat} {a : Addr} (hi : l[i]? = some a) (hj : l[j]? = some a) : i = j := by
  obtain ⟨h1, e1⟩ := List.getElem?_eq_some_iff.mp hi
  obtain ⟨h2, e2⟩ := List.getElem?_eq_some_iff.mp hj
  exact (List.getElem_inj h).mp (e1.trans e2.symm)
theorem good_write {T : Tab} {Z : Wd} {H : Hp} {μ : Store} (g : Good T Z H μ) {n : Nat} {a : Addr} {m m0 : MO} {o : HO} (hn : Z.f[n]? = some a) (hm : μ[n]? = some (some m0)) (r : RepM T Z m o) : Good T Z (upd H a o) (μ.set n (some m)) := by
  have hg := (g.obj n a m0 hn hm).1
  refine ⟨fun b u e => ?_, by rw [List.length_set]; exact g.len, g.inj, fun b hb z => ?_, fun k b m' e1 e2 => ?_⟩
  · rw [upd_ne (ne_of_none e hg)]
    exact g.sub b u e
  · by_cases hba : b = a
    · rw [hba, upd_same] at z
      cases z
    · rw [upd_ne hba] at z
      exact g.there b hb z
  · by_cases hk : n = k
    · subst hk
      have ea : a = b := Option.some.inj (hn.symm.trans e1)
      subst ea
      rw [List.getElem?_set_self (by rw [← g.len]; exact (List.getElem?_eq_some_iff.mp hn).1)] at e2
      cases e2
      exact ⟨hg, o, upd_same, r⟩
    · rw [List.getElem?_set_ne hk] at e2
      obtain ⟨h0, u, h1, h2⟩ := g.obj k b m' e1 e2
      have nb : b ≠ a := fun z => by
        subst z
        exact hk (nodup_at g.inj hn e1)
      exact ⟨h0, u, by rw [upd_ne nb]; exact h1, h2⟩
theorem Step.write {Z : Wd} {H : Hp} {n : Nat} {a : Addr} {o : HO} (hn : Z.f[n]? = some a) : Step Z H Z (upd H a o) := ⟨Le.refl Z, fun b u e nm => ⟨by
  have nb : b ≠ a := fun z => nm (z ▸ List.mem_of_getElem? hn)
  rw [upd_ne nb]
  exact e, nm, fun q => q⟩⟩
section
variable {X : Cx} {c : Nat → Addr} {W : WX} {pos : Pos}
theorem dg_sub {o i : Expr} {δo δi : DenE} (ho : PE X o (rdE (tb X c) (fun _ _ _ _ => False) δo)) (hi : PE X i (rdE (tb X c) (fun _ _ _ _ => False) δi)) (hns : notSlice i = true) : PG X (.Subscript o i pos) (rdTg (tb X c) (gSubD δo δi)) := by
  refine PG.imp (pg_sub ho hi set_list (fun v => by cases i <;> first | rfl | cases hns)) fun v σ H Q ⟨Z, ρ, μ, d, g, s, r, h⟩ => ?_
  have h0 : post (tb X c) (Rep (tb X c)) (fun _ _ _ _ => False) Z H σ (δo ρ μ) _ := post_w (post_bind (R := Rep (tb X c)) h) fun _ _ _ z => z
  refine ⟨Z, ρ, μ, g, s, post_mono h0 fun x H1 ⟨Z1, dx, μ1, l1, g1, r1, q1⟩ => ?_⟩
  have h1 : post (tb X c) (Rep (tb X c)) (fun _ _ _ _ => False) Z1 H1 σ (δi ρ μ1) _ := post_w (post_bind (R := Rep (tb X c)) q1) fun _ _ _ z => z
  refine ⟨Z1, ρ, μ1, g1, s.mono l1.le, post_mono h1 fun y H2 ⟨Z2, dy, μ2, l2, g2, r2, q2⟩ => ?_⟩
  have rx := r1.mono l2.le
  cases rx with
  | @loc n a hn =>
    cases r2 with
    | int k =>
      simp only [setD] at q2
      cases w : asL μ2 (.loc n) with
      | none =>
        simp only [w] at q2
        exact False.elim q2
      | some xs =>
        simp only [w] at q2
        cases w2 : ixN xs.length k with
        | none =>
          simp only [w2] at q2
          exact False.elim q2
        | some j =>
          simp only [w2] at q2
          obtain ⟨vs, e1, e2⟩ := loc_list g2 hn (asL_loc w)
          have rv := (r.mono l1.le).mono l2.le
          have sl := (s.mono l1.le).mono l2.le
          exact ⟨a, vs, k, j, rfl, rfl, e1, by rw [← e2.length]; exact w2, q2 Z2 _ σ (Step.write hn) (good_write g2 hn (asL_loc w) (.lst (e2.set rv j))) sl⟩
    | _ => exact False.elim q2
  | _ =>
    cases r2 <;> exact False.elim q2
end
end DL

set_option Elab.async false
set_option linter.all false
set_option autoImplicit false
set_option maxRecDepth 100000
/-! DL, part g: statements, loops, the rule for a def. -/
namespace DL
open PySem L2

def sNext : DenS := fun ρ μ => .nx ρ μ
def sSeq (a b : DenS) : DenS := fun ρ μ => match a ρ μ with
  | .nx ρ1 μ1 => b ρ1 μ1
  | o => o
def sAsg (δ : DenE) (γ : DenG) : DenS := fun ρ μ => bindS (δ ρ μ) ρ fun d μ1 => match γ d ρ μ1 with
  | .ok ρ1 μ2 => .nx ρ1 μ2
  | _ => .bad
def sSet (i : Nat) (δ : DenE) : DenS := fun ρ μ => bindS (δ ρ μ) ρ fun d μ1 => .nx (ρ.set i (some d)) μ1
def sDrop (δ : DenE) : DenS := fun ρ μ => bindS (δ ρ μ) ρ fun _ μ1 => .nx ρ μ1
def sRet (δ : DenE) : DenS := fun ρ μ => bindS (δ ρ μ) ρ fun d μ1 => .rt d μ1
def sRetN : DenS := fun _ μ => .rt .non μ
def sIf (t : DenT) (a b : DenS) : DenS := fun ρ μ => bindS (t ρ μ) ρ fun k μ1 => if k = true then a ρ μ1 else b ρ μ1
def sPar2 (i j : Nat) (δs : DenA) : DenS := fun ρ μ => bindS (δs ρ μ) ρ fun ds μ1 => match ds with
  | [x, y] => .nx ((ρ.set i (some x)).set j (some y)) μ1
  | _ => .bad
def sPar3 (i j l : Nat) (δs : DenA) : DenS := fun ρ μ => bindS (δs ρ μ) ρ fun ds μ1 => match ds with
  | [x, y, z] => .nx (((ρ.set i (some x)).set j (some y)).set l (some z)) μ1
  | _ => .bad
section
variable {X : Cx} {c : Nat → Addr} {W : WX} {pos : Pos} {st : Stmt} {rest : List Stmt} {a b : DenS} {e : Expr} {δ : DenE} {γ : DenG} {δs : DenA}
theorem dss_nil : PSs X [] (rdS (tb X c) W sNext) := PSs.imp pss_nil fun E σ H ⟨Z, ρ, μ, g, s, h⟩ => h Z H σ Step.rfl g s
theorem ds_pass : PS X (.Pass pos) (rdS (tb X c) W sNext) := PS.imp ps_pass fun E σ H ⟨Z, ρ, μ, g, s, h⟩ => h Z H σ Step.rfl g s
theorem ds_break : PS X (.Break pos) (rdS (tb X c) W fun ρ μ => .bk ρ μ) := PS.imp ps_break fun E σ H ⟨Z, ρ, μ, g, s, h⟩ => h Z H σ Step.rfl g s
theorem ds_cont : PS X (.Continue pos) (rdS (tb X c) W fun ρ μ => .ct ρ μ) := PS.imp ps_continue fun E σ H ⟨Z, ρ, μ, g, s, h⟩ => h Z H σ Step.rfl g s
theorem postS_seq {T : Tab} {Z : Wd} {H : Hp} {E : Ends} {o : Out} {b : DenS} (h : postS T W Z H E (match o with | .nx ρ1 μ1 => b ρ1 μ1 | o => o)) : postS T W Z H { E with nx := rdS T W b E } o := by
  cases o with
  | nx ρ μ => exact fun Z' H' σ l g s => ⟨Z', ρ, μ, g, s, postS_st l h⟩
  | rt d μ => exact h
  | bk ρ μ => exact h
  | ct ρ μ => exact h
  | exc C fs ρ μ => exact h
  | bad => exact h
theorem dss_cons (h1 : PS X st (rdS (tb X c) W a)) (h2 : PSs X rest (rdS (tb X c) W b)) : PSs X (st :: rest) (rdS (tb X c) W (sSeq a b)) :=
  PSs.imp (pss_cons h1 h2) fun E σ H ⟨Z, ρ, μ, g, s, h⟩ => ⟨Z, ρ, μ, g, s, postS_seq h⟩
theorem dss_one (h1 : PS X st (rdS (tb X c) W a)) : PSs X [st] (rdS (tb X c) W a) := pss_one h1
theorem ds_drop (hn : notComp e = true) (h : PE X e (rdE (tb X c) W δ)) : PS X (.Expr e pos) (rdS (tb X c) W (sDrop δ)) := by
  refine PS.imp (ps_expr h (swaps_of hn _ _ _)) fun E σ H ⟨Z, ρ, μ, g, s, q⟩ => ?_
  refine ⟨Z, ρ, μ, g, s, post_mono (post_bindS (R := Rep (tb X c)) s q) fun v H1 ⟨Z1, d, μ1, l, g1, s1, r, q1⟩ => ?_⟩
  exact q1 Z1 H1 σ Step.rfl g1 s1
theorem ds_ret (h : PE X e (rdE (tb X c) W δ)) : PS X (.Return (some e) pos) (rdS (tb X c) W (sRet δ)) := by
  refine PS.imp (ps_ret h) fun E σ H ⟨Z, ρ, μ, g, s, q⟩ => ?_
  refine ⟨Z, ρ, μ, g, s, post_mono (post_bindS (R := Rep (tb X c)) s q) fun v H1 ⟨Z1, d, μ1, l, g1, s1, r, q1⟩ => ?_⟩
  exact q1 Z1 H1 v Step.rfl g1 r
theorem ds_retN : PS X (.Return none pos) (rdS (tb X c) W sRetN) := PS.imp ps_retN fun E σ H ⟨Z, ρ, μ, g, s, h⟩ => h Z H _ Step.rfl g .non
theorem ds_if {t : Expr} {τ : DenT} {as bs : List Stmt} (ht : PT X t (rdT (tb X c) W τ)) (ha : PSs X as (rdS (tb X c) W a)) (hb : PSs X bs (rdS (tb X c) W b)) : PS X (.If t as bs pos) (rdS (tb X c) W (sIf τ a b)) := by
  refine PS.imp (ps_if ht ha hb) fun E σ H ⟨Z, ρ, μ, g, s, q⟩ => ?_
  refine ⟨Z, ρ, μ, g, s, post_mono (post_bindS (R := EqB) s q) fun k H1 ⟨Z1, k1, μ1, l, g1, s1, r, q1⟩ => ?_⟩
  have r' : k1 = k := r
  subst r'
  cases k1 with
  | true => exact ⟨Z1, ρ, μ1, g1, s1, q1⟩
  | false => exact ⟨Z1, ρ, μ1, g1, s1, q1⟩
theorem ds_set {i : Nat} {x : Str} {p : Pos} (hN : X.N.Nodup) (hi : X.N[i]? = some x) (hx : Loc X.env.scope x) (hf : X.fn x = true ∨ X.env.scope.names.lookup x = some .local) (hn : notComp e = true) (h : PE X e (rdE (tb X c) W δ)) : PS X (.Assign [.Name x p] e pos) (rdS (tb X c) W (sSet i δ)) := by
  refine PS.imp (ps_set hN hi hx h (swaps_of hn _ _ _) hf) fun E σ H ⟨Z, ρ, μ, g, s, q⟩ => ?_
  refine ⟨Z, ρ, μ, g, s, post_mono (post_bindS (R := Rep (tb X c)) s q) fun v H1 ⟨Z1, d, μ1, l, g1, s1, r, q1⟩ => ?_⟩
  exact q1 Z1 H1 _ Step.rfl g1 (s1.set r i)
theorem post_no {T : Tab} {Z : Wd} {H : Hp} {E : Ends} {r : Res Env} (h : postS T W Z H E (match r with | .ok ρ1 μ2 => .nx ρ1 μ2 | _ => .bad)) : post T (Slots T) (fun _ _ _ _ => False) Z H [] r E.nx := by
  cases r with
  | ok ρ μ => exact fun Z' H' v l g s => h Z' H' v l g s
  | exc C fs μ => exact False.elim h
  | bad => exact h
theorem ds_asg {tg : Expr} (hn : notComp e = true) (hw : swappedStores [tg] e X.env = pure none) (h1 : (assignEach [tg] X.env).map (·.2) = [assign tg X.env]) (h : PE X e (rdE (tb X c) W δ)) (hg : PG X tg (rdTg (tb X c) γ)) : PS X (.Assign [tg] e pos) (rdS (tb X c) W (sAsg δ γ)) := by
  refine PS.imp (ps_asg h hg (swaps_of hn _ _ _) hw h1) fun E σ H ⟨Z, ρ, μ, g, s, q⟩ => ?_
  refine ⟨Z, ρ, μ, g, s, post_mono (post_bindS (R := Rep (tb X c)) s q) fun v H1 ⟨Z1, d, μ1, l, g1, s1, r, q1⟩ => ?_⟩
  exact ⟨Z1, ρ, μ1, d, g1, s1, r, post_no q1⟩
theorem ds_par2 {i j : Nat} {x y : Str} {u v : Expr} {px py pt pt2 : Pos} {kt k2 : Nat} (hc : X.calm = true) (hN : X.N.Nodup) (hi : X.N[i]? = some x) (hj : X.N[j]? = some y) (hij : i ≠ j) (hx : X.env.scope.names.lookup x = some .local) (hy : X.env.scope.names.lookup y = some .local)
    (ha : PA X [u, v] (rdA (tb X c) W δs)) (hw : swappedStores [.Tuple [.Name x px, .Name y py] kt pt] (.Tuple [u, v] k2 pt2) X.env = pure (some [x, y])) : PS X (.Assign [.Tuple [.Name x px, .Name y py] kt pt] (.Tuple [u, v] k2 pt2) pos) (rdS (tb X c) W (sPar2 i j δs)) := by
  refine PS.imp (ps_par hc hN hi hj hij hx hy ha hw) fun E σ H ⟨Z, ρ, μ, g, s, q⟩ => ?_
  refine ⟨Z, ρ, μ, g, s, post_mono (post_bindS (R := Reps (tb X c)) s q) fun vs H1 ⟨Z1, ds, μ1, l, g1, s1, r, q1⟩ => ?_⟩
  cases r with
  | nil => exact False.elim q1
  | cons r1 r2 =>
    cases r2 with
    | nil => exact False.elim q1
    | cons r2 r3 =>
      cases r3 with
      | nil => exact ⟨_, _, rfl, q1 Z1 H1 _ Step.rfl g1 ((s1.set r1 i).set r2 j)⟩
      | cons _ _ => exact False.elim q1
theorem ds_par3 {i j l : Nat} {x y z : Str} {u v w : Expr} {px py pz pt pt2 : Pos} {kt k2 : Nat} (hc : X.calm = true) (hN : X.N.Nodup) (hi : X.N[i]? = some x) (hj : X.N[j]? = some y) (hl : X.N[l]? = some z) (hij : i ≠ j) (hil : i ≠ l) (hjl : j ≠ l)
    (hx : X.env.scope.names.lookup x = some .local) (hy : X.env.scope.names.lookup y = some .local) (hz : X.env.scope.names.lookup z = some .local) (ha : PA X [u, v, w] (rdA (tb X c) W δs))
    (hw : swappedStores [.Tuple [.Name x px, .Name y py, .Name z pz] kt pt] (.Tuple [u, v, w] k2 pt2) X.env = pure (some [x, y, z])) : PS X (.Assign [.Tuple [.Name x px, .Name y py, .Name z pz] kt pt] (.Tuple [u, v, w] k2 pt2) pos) (rdS (tb X c) W (sPar3 i j l δs)) := by
  refine PS.imp (ps_par3 hc hN hi hj hl hij hil hjl hx hy hz ha hw) fun E σ H ⟨Z, ρ, μ, g, s, q⟩ => ?_
  refine ⟨Z, ρ, μ, g, s, post_mono (post_bindS (R := Reps (tb X c)) s q) fun vs H1 ⟨Z1, ds, μ1, l1, g1, s1, r, q1⟩ => ?_⟩
  cases r with
  | nil => exact False.elim q1
  | cons r1 r2 =>
    cases r2 with
    | nil => exact False.elim q1
    | cons r2 r3 =>
      cases r3 with
      | nil => exact False.elim q1
      | cons r3 r4 =>
        cases r4 with
        | nil => exact ⟨_, _, _, rfl, q1 Z1 H1 _ Step.rfl g1 (((s1.set r1 i).set r2 j).set r3 l)⟩
        | cons _ _ => exact False.elim q1
end

/-! ### what a loop walks -/
def RI (T : Tab) (Z : Wd) (items : List D) (J : It) : Prop := ∀ Z' H μ i, Le Z Z' → Good T Z' H μ →
  (i < items.length → J.go i H ∧ ∀ x H', J.yld i H x H' → ∃ Z2 d, Step Z' H Z2 H' ∧ Good T Z2 H' μ ∧ items[i]? = some d ∧ Rep T Z2 d x) ∧ (items.length ≤ i → J.stop i H)
abbrev DenI := Env → Store → Res (List D)
abbrev rdI (T : Tab) (W : WX) (δ : DenI) : TI := rdG T (RI T) W δ
theorem PI.imp {X : Cx} {tg e : Expr} {t t' : TI} (h : PI X tg e t) (i : ∀ σ H Q, t' σ H Q → t σ H Q) : PI X tg e t' := ⟨fun pins s σ H Q I w => h.run pins s σ H Q I (i σ H Q w)⟩
theorem PI.or {X : Cx} {tg e : Expr} {t t' : TI} (h : PI X tg e t) (h' : PI X tg e t') : PI X tg e (fun σ H Q => t σ H Q ∨ t' σ H Q) := ⟨fun pins s σ H Q I w => w.elim (h.run pins s σ H Q I) (h'.run pins s σ H Q I)⟩
/-- a list or tuple that stays -/
def fixS : D → Option (List D)
  | .lst xs => some xs
  | .scr xs => some xs
  | .tup xs => some xs
  | _ => none
def iSeq (δ : DenE) : DenI := fun ρ μ => (δ ρ μ).bind fun d μ1 => ofO (fixS d) μ1
def intsD (lo : Int) (n : Nat) : List D := (List.range n).map fun i => .int (lo + (i : Nat))
def iRng1 (δs : DenA) : DenI := fun ρ μ => (δs ρ μ).bind fun ds μ1 => match ds with
  | [.int j] => if -(2 ^ 62) ≤ j ∧ j < 2 ^ 62 then .ok (intsD 0 j.toNat) μ1 else .bad
  | _ => .bad
def iRng2 (δs : DenA) : DenI := fun ρ μ => (δs ρ μ).bind fun ds μ1 => match ds with
  | [.int i, .int j] => if -(2 ^ 62) ≤ i ∧ i < 2 ^ 62 ∧ -(2 ^ 62) ≤ j ∧ j < 2 ^ 62 then .ok (intsD i (j - i).toNat) μ1 else .bad
  | _ => .bad
theorem ri_l {T : Tab} {Z : Wd} {ds : List D} {a : Addr} {vs : List V} (h : SqL T.K Z.g a vs) (r : Reps T Z ds vs) : RI T Z ds (Itl T.K a) := fun Z' H μ i l g => by
  have q : SqL T.K H a vs := Same.seq g.sub (Same.seq l.g h)
  have rr := r.mono l
  refine ⟨fun hi => ?_, fun hi => ⟨vs, q, by rw [← r.length]; exact hi⟩⟩
  obtain ⟨y, hy, ry⟩ := rr.get (List.getElem?_eq_getElem hi)
  exact ⟨⟨vs, y, q, hy⟩, fun x H' ⟨e, w⟩ => by
    subst e
    have ex : x = y := Option.some.inj ((w vs q).symm.trans hy)
    subst ex
    exact ⟨Z', _, Step.rfl, g, List.getElem?_eq_getElem hi, ry⟩⟩
theorem ri_t {T : Tab} {Z : Wd} {ds : List D} {a : Addr} {vs : List V} (h : SqT T.K Z.g a vs) (r : Reps T Z ds vs) : RI T Z ds (Itt T.K a) := fun Z' H μ i l g => by
  have q : SqT T.K H a vs := Same.sqt g.sub (Same.sqt l.g h)
  have rr := r.mono l
  refine ⟨fun hi => ?_, fun hi => ⟨vs, q, by rw [← r.length]; exact hi⟩⟩
  obtain ⟨y, hy, ry⟩ := rr.get (List.getElem?_eq_getElem hi)
  exact ⟨⟨vs, y, q, hy⟩, fun x H' ⟨e, w⟩ => by
    subst e
    have ex : x = y := Option.some.inj ((w vs q).symm.trans hy)
    subst ex
    exact ⟨Z', _, Step.rfl, g, List.getElem?_eq_getElem hi, ry⟩⟩
theorem ri_r {T : Tab} {Z : Wd} {lo : Int} {n : Nat} : RI T Z (intsD lo n) (Itr lo n) := fun Z' H μ i l g => by
  have hl : (intsD lo n).length = n := by unfold intsD; rw [List.length_map, List.length_range]
  rw [hl]
  refine ⟨fun hi => ⟨hi, fun x H' ⟨e, w⟩ => ?_⟩, fun hi => hi⟩
  subst e
  subst w
  refine ⟨Z', .int (lo + i), Step.rfl, g, ?_, .int _⟩
  unfold intsD
  rw [List.getElem?_map, List.getElem?_range hi]
  rfl
section
variable {X : Cx} {c : Nat → Addr} {W : WX} {pos p : Pos} {tg e : Expr} {δ : DenE} {δs : DenA}
theorem di_seq (h : PE X e (rdE (tb X c) W δ)) : PI X tg e (rdI (tb X c) W (iSeq δ)) := by
  refine PI.imp (PI.or (pi_list h) (pi_tup h)) fun σ H Q ⟨Z, ρ, μ, g, s, q⟩ => ?_
  unfold iSeq at q
  cases e1 : δ ρ μ with
  | bad =>
    rw [e1] at q
    exact False.elim q
  | exc C fs μ1 =>
    rw [e1] at q
    refine .inl ⟨Z, ρ, μ, g, s, ?_⟩
    rw [e1]
    exact q
  | ok d μ1 =>
    rw [e1] at q
    have q' : post (tb X c) (RI (tb X c)) W Z H σ (ofO (fixS d) μ1) Q := q
    cases d with
    | lst xs =>
      refine .inl ⟨Z, ρ, μ, g, s, ?_⟩
      rw [e1]
      intro Z' H' v l g' r
      cases r with
      | lst h r => exact ⟨_, rfl, ⟨_, SqL.of (g'.sub _ _ h)⟩, q' Z' H' _ l g' (ri_l (SqL.of h) r)⟩
    | scr xs =>
      refine .inl ⟨Z, ρ, μ, g, s, ?_⟩
      rw [e1]
      intro Z' H' v l g' r
      cases r with
      | scr h r => exact ⟨_, rfl, ⟨_, Same.seq g'.sub h⟩, q' Z' H' _ l g' (ri_l h r)⟩
    | tup xs =>
      refine .inr ⟨Z, ρ, μ, g, s, ?_⟩
      rw [e1]
      intro Z' H' v l g' r
      cases r with
      | tup h r => exact ⟨_, rfl, ⟨_, Same.sqt g'.sub h⟩, q' Z' H' _ l g' (ri_t h r)⟩
    | _ => exact False.elim q'
theorem di_rng1 {a : Expr} (hg : Gl X "range") (hm : X.mg "range" = none) (hs : notStar a = true) (ha : PA X [a] (rdA (tb X c) W δs)) : PI X tg (.Call (.Name "range" p) [a] [] pos) (rdI (tb X c) W (iRng1 δs)) := by
  refine PI.imp (pi_range1 hg hm ha (star_cons hs [] X.env)) fun σ H Q h => ?_
  obtain ⟨Z, ρ, μ, g, s, h1⟩ := rd_then (R := Reps (tb X c)) (f := fun _ ds μ1 => (match ds with
    | [.int j] => if -(2 ^ 62) ≤ j ∧ j < 2 ^ 62 then .ok (intsD 0 j.toNat) μ1 else .bad
    | _ => .bad : Res (List D))) h
  refine ⟨Z, ρ, μ, g, s, post_mono h1 fun vs H1 ⟨Z1, ρ1, ds, μ1, g1, s1, r, q1⟩ => ?_⟩
  split at q1
  · rename_i j
    split at q1
    · rename_i hj
      cases r with
      | cons r1 r2 =>
        cases r2
        cases r1
        exact ⟨j, rfl, hj.1, hj.2, q1 Z1 H1 _ Step.rfl g1 ri_r⟩
    · exact False.elim q1
  · exact False.elim q1
theorem di_rng2 {a b : Expr} (hg : Gl X "range") (hm : X.mg "range" = none) (hs : notStar a = true) (hs2 : notStar b = true) (ha : PA X [a, b] (rdA (tb X c) W δs)) : PI X tg (.Call (.Name "range" p) [a, b] [] pos) (rdI (tb X c) W (iRng2 δs)) := by
  refine PI.imp (pi_range2 hg hm ha (by rw [star_cons hs, star_cons hs2]; rfl) (star_cons hs2 [] X.env)) fun σ H Q h => ?_
  obtain ⟨Z, ρ, μ, g, s, h1⟩ := rd_then (R := Reps (tb X c)) (f := fun _ ds μ1 => (match ds with
    | [.int i, .int j] => if -(2 ^ 62) ≤ i ∧ i < 2 ^ 62 ∧ -(2 ^ 62) ≤ j ∧ j < 2 ^ 62 then .ok (intsD i (j - i).toNat) μ1 else .bad
    | _ => .bad : Res (List D))) h
  refine ⟨Z, ρ, μ, g, s, post_mono h1 fun vs H1 ⟨Z1, ρ1, ds, μ1, g1, s1, r, q1⟩ => ?_⟩
  split at q1
  · rename_i i j
    split at q1
    · rename_i hj
      cases r with
      | cons r1 r2 =>
        cases r2 with
        | cons r2 r3 =>
          cases r3
          cases r1
          cases r2
          exact ⟨i, j, rfl, hj, q1 Z1 H1 _ Step.rfl g1 ri_r⟩
    · exact False.elim q1
  · exact False.elim q1
end

/-! ### for, while -/
def forL (γ : DenG) (body : DenS) : List D → Env → Store → Out
  | [], ρ, μ => .nx ρ μ
  | d :: ds, ρ, μ => match γ d ρ μ with
    | .ok ρ1 μ1 => match body ρ1 μ1 with
      | .nx ρ2 μ2 => forL γ body ds ρ2 μ2
      | .ct ρ2 μ2 => forL γ body ds ρ2 μ2
      | .bk ρ2 μ2 => .nx ρ2 μ2
      | .rt d μ2 => .rt d μ2
      | .exc C fs ρ2 μ2 => .exc C fs ρ2 μ2
      | .bad => .bad
    | _ => .bad
def sFor (it : DenI) (γ : DenG) (body : DenS) : DenS := fun ρ μ => bindS (it ρ μ) ρ fun items μ1 => forL γ body items ρ μ1
def whileL (t : DenT) (body : DenS) : Nat → Env → Store → Out
  | 0, _, _ => .bad
  | n + 1, ρ, μ => bindS (t ρ μ) ρ fun k μ1 => if k = true then (match body ρ μ1 with
      | .nx ρ2 μ2 => whileL t body n ρ2 μ2
      | .ct ρ2 μ2 => whileL t body n ρ2 μ2
      | .bk ρ2 μ2 => .nx ρ2 μ2
      | .rt d μ2 => .rt d μ2
      | .exc C fs ρ2 μ2 => .exc C fs ρ2 μ2
      | .bad => .bad) else .nx ρ μ1
def sWhile (fuel : Env → Store → Nat) (t : DenT) (body : DenS) : DenS := fun ρ μ => whileL t body (fuel ρ μ) ρ μ
section
variable {X : Cx} {c : Nat → Addr} {W : WX} {pos : Pos} {tg iter : Expr} {body : List Stmt} {it : DenI} {γ : DenG} {δ : DenS} {τ : DenT}
theorem ds_for (hp : PassesOwn (model X.prog X.w) X.A X.env X.xe) (hc : X.calm = true) (hi : PI X tg iter (rdI (tb X c) W it)) (hg : PG X tg (rdTg (tb X c) γ)) (hb : PSs X body (rdS (tb X c) W δ)) (hs : ∀ x, foldedSetIterable iter X.env x = pure x) :
    PS X (.For tg iter body [] pos) (rdS (tb X c) W (sFor it γ δ)) := by
  refine PS.imp (ps_for hp hc hi hg hb hs) fun E σ H ⟨Z, ρ, μ, g, s, q⟩ => ?_
  refine ⟨Z, ρ, μ, g, s, post_mono (post_bindS (R := RI (tb X c)) s q) fun J H1 ⟨Z1, items, μ1, l1, g1, s1, ri, q1⟩ => ?_⟩
  refine ⟨fun i m σ' H' => ∃ Z' ρ' μ', Le Z1 Z' ∧ Good (tb X c) Z' H' μ' ∧ Slots (tb X c) Z' ρ' σ' ∧ m = (items.drop i).length ∧ i ≤ items.length ∧ postS (tb X c) W Z' H' E (forL γ δ (items.drop i) ρ' μ'), ⟨_, Z1, ρ, μ1, Le.refl Z1, g1, s1, rfl, Nat.zero_le _, q1⟩, ?_⟩
  rintro i m σ' H' ⟨Z', ρ', μ', l, g', s', hm, hle, q'⟩
  obtain ⟨go, stop⟩ := ri Z' H' μ' i l g'
  by_cases hi' : i < items.length
  · obtain ⟨h1, h2⟩ := go hi'
    rw [List.drop_eq_getElem_cons hi'] at q' hm
    refine .inr ⟨h1, fun σ2 H2 => ∃ Z2 ρ2 μ2, Le Z1 Z2 ∧ Good (tb X c) Z2 H2 μ2 ∧ Slots (tb X c) Z2 ρ2 σ2 ∧ postS (tb X c) W Z2 H2 E (forL γ δ (items.drop (i + 1)) ρ2 μ2), fun σ2 H2 ⟨Z2, ρ2, μ2, l2, g2, s2, q2⟩ => ⟨_, ?_, Z2, ρ2, μ2, l2, g2, s2, rfl, hi', q2⟩, fun x H2 y => ?_⟩
    · rw [hm, List.length_cons]
      exact Nat.lt_succ_self _
    · obtain ⟨Z2, d, l2, g2, e2, r2⟩ := h2 x H2 y
      have e3 : items[i] = d := Option.some.inj ((List.getElem?_eq_getElem hi').symm.trans e2)
      rw [e3] at q'
      have q2 := postS_st l2 q'
      simp only [forL] at q2
      refine ⟨Z2, ρ', μ', d, g2, s'.mono l2.le, r2, ?_⟩
      cases eg : γ d ρ' μ' with
      | bad =>
        rw [eg] at q2
        exact False.elim q2
      | exc C fs μ3 =>
        rw [eg] at q2
        exact False.elim q2
      | ok ρ3 μ3 =>
        rw [eg] at q2
        intro Z3 H3 σ3 l3 g3 s3
        refine ⟨Z3, ρ3, μ3, g3, s3, ?_⟩
        have q3 := postS_st l3 q2
        have lz := (l.trans l2.le).trans l3.le
        dsimp only at q3
        cases eb : δ ρ3 μ3 with
        | nx ρ4 μ4 =>
          rw [eb] at q3
          exact fun Z4 H4 σ4 l4 g4 s4 => ⟨Z4, ρ4, μ4, lz.trans l4.le, g4, s4, postS_st l4 q3⟩
        | ct ρ4 μ4 =>
          rw [eb] at q3
          exact fun Z4 H4 σ4 l4 g4 s4 => ⟨Z4, ρ4, μ4, lz.trans l4.le, g4, s4, postS_st l4 q3⟩
        | bk ρ4 μ4 =>
          rw [eb] at q3
          exact q3
        | rt d4 μ4 =>
          rw [eb] at q3
          exact q3
        | exc C fs ρ4 μ4 =>
          rw [eb] at q3
          exact q3
        | bad =>
          rw [eb] at q3
          exact q3
  · rw [List.drop_eq_nil_of_le (by omega)] at q'
    exact .inl ⟨stop (by omega), q' Z' H' σ' Step.rfl g' s'⟩
theorem ds_while {t : Expr} (fuel : Env → Store → Nat) (hp : PassesOwn (model X.prog X.w) X.A X.env X.xe) (ht : PT X t (rdT (tb X c) W τ)) (hb : PSs X body (rdS (tb X c) W δ)) : PS X (.While t body [] pos) (rdS (tb X c) W (sWhile fuel τ δ)) := by
  refine PS.imp (ps_while hp ht hb) fun E σ H ⟨Z, ρ, μ, g, s, q⟩ => ?_
  refine ⟨fun m σ' H' => ∃ Z' ρ' μ', Good (tb X c) Z' H' μ' ∧ Slots (tb X c) Z' ρ' σ' ∧ postS (tb X c) W Z' H' E (whileL τ δ m ρ' μ'), ⟨fuel ρ μ, Z, ρ, μ, g, s, q⟩, ?_⟩
  rintro m σ' H' ⟨Z', ρ', μ', g', s', q'⟩
  cases m with
  | zero => exact False.elim q'
  | succ m =>
    simp only [whileL] at q'
    refine ⟨Z', ρ', μ', g', s', post_mono (post_bindS (R := EqB) s' q') fun k H1 ⟨Z1, k1, μ1, l1, g1, s1, r1, q1⟩ => ?_⟩
    have r' : k1 = k := r1
    subst r'
    cases k1 with
    | false => exact q1 Z1 H1 _ Step.rfl g1 s1
    | true =>
      refine ⟨fun σ2 H2 => ∃ Z2 ρ2 μ2, Good (tb X c) Z2 H2 μ2 ∧ Slots (tb X c) Z2 ρ2 σ2 ∧ postS (tb X c) W Z2 H2 E (whileL τ δ m ρ2 μ2), fun σ2 H2 h => ⟨m, Nat.lt_succ_self _, h⟩, Z1, ρ', μ1, g1, s1, ?_⟩
      rw [if_pos rfl] at q1
      cases eb : δ ρ' μ1 with
      | nx ρ4 μ4 =>
        rw [eb] at q1
        exact fun Z4 H4 σ4 l4 g4 s4 => ⟨Z4, ρ4, μ4, g4, s4, postS_st l4 q1⟩
      | ct ρ4 μ4 =>
        rw [eb] at q1
        exact fun Z4 H4 σ4 l4 g4 s4 => ⟨Z4, ρ4, μ4, g4, s4, postS_st l4 q1⟩
      | bk ρ4 μ4 =>
        rw [eb] at q1
        exact q1
      | rt d4 μ4 =>
        rw [eb] at q1
        exact q1
      | exc C fs ρ4 μ4 =>
        rw [eb] at q1
        exact q1
      | bad =>
        rw [eb] at q1
        exact q1
end
end DL

set_option Elab.async false
set_option linter.all false
set_option autoImplicit false
set_option maxRecDepth 100000
/-! DL, part h: the rule for a def; its calls. -/
namespace DL
open PySem L2

def startD (n : Nat) (ds : List D) : Env := ds.map some ++ List.replicate (n - ds.length) none
def runBody (n : Nat) (body : DenS) : Mir := fun ds μ => match body (startD n ds) μ with
  | .nx _ μ1 => .ok .non μ1
  | .rt d μ1 => .ok d μ1
  | .exc C fs _ μ1 => .exc C fs μ1
  | _ => .bad
theorem slots_start {T : Tab} {Z : Wd} {N : List Str} {ds : List D} {vs : List V} (r : Reps T Z ds vs) : Slots T Z (startD N.length ds) (L2.start N vs) := by
  unfold startD L2.start
  have hl := r.length
  refine ⟨by simp [hl], fun i d e => ?_⟩
  by_cases hi : i < ds.length
  · rw [List.getElem?_append_left (by rw [List.length_map]; exact hi), List.getElem?_map] at e
    cases q : ds[i]? with
    | none => rw [q] at e; cases e
    | some d' =>
      rw [q] at e
      have e' : d' = d := Option.some.inj (Option.some.inj e)
      subst e'
      obtain ⟨y, h1, h2⟩ := r.get q
      refine ⟨y, ?_, h2⟩
      rw [List.getElem?_append_left (by rw [List.length_map, ← hl]; exact hi), List.getElem?_map, h1]
      rfl
  · rw [List.getElem?_append_right (by rw [List.length_map]; omega), List.getElem?_replicate] at e
    split at e <;> cases e
/-- THE RULE for a def: its body's rows as a DenS -/
theorem fn_d2 {P : Program} {w : World} {K : PySem.W.Frag} {mg : Str → Option Value} {base : Heap} {cl : Nat → Addr} {k : Nat} {f : Addr} {name qual : Str} {params : Arguments} {body : List Stmt} {scope : Scope} {dV kV doc pm cdv ct oc : Value} {an od : Option Addr}
    {osl : Array (Option Value)} {N ps : List Str} {δ : DenS} (lk : K.lookup f = some ⟨oc, od, .func (PySem.W.fnOf name qual params body scope dV kV doc pm an cdv ct), osl⟩) (hcd : PySem.W.codeIn K cdv qual = true) (S : FnScope N ps scope)
    (hbody : ∀ (A : Around) (outer : List PySem.Env) (s : Shared) (H : Hp) (E : XK), Room k (cxOf (L2.CX P w) P w K mg base N qual scope f cdv A outer s H E).A → (cxOf (L2.CX P w) P w K mg base N qual scope f cdv A outer s H E).A.guards = some [] →
      Takes (cxOf (L2.CX P w) P w K mg base N qual scope f cdv A outer s H E) (fun cls d _ H' => E cls d H') → PassesOwn (model P w) (cxOf (L2.CX P w) P w K mg base N qual scope f cdv A outer s H E).A (cxOf (L2.CX P w) P w K mg base N qual scope f cdv A outer s H E).env (cxOf (L2.CX P w) P w K mg base N qual scope f cdv A outer s H E).xe →
      PSs (cxOf (L2.CX P w) P w K mg base N qual scope f cdv A outer s H E) body (rdS ⟨K, cl⟩ (fun cls d _ H' => E cls d H') δ)) :
    GnOk P w K mg base (k + 1) f (PySem.W.fnOf name qual params body scope dV kV doc pm an cdv ct) ps (spM ⟨K, cl⟩ ps.length (runBody N.length δ)) := by
  refine ⟨fun vs H Q E h => h.1, fun A outer s H args us vs Q E hr hG e0 hb r hsp => ?_⟩
  obtain ⟨hl, Z, ds, μ, g, rd, hp⟩ := hsp
  have KX : K.In s.heap := e0.mod.kin.keeps fun b o e => (e0.bs b o e).1
  have lim : s.heap.NoLimit := e0.mod.nolimit.keeps fun b o e => (e0.bs b o e).1
  have hkind : ∀ y ∈ ps.zip us, scope.names.lookup y.1 = some .local ∨ (scope.names.lookup y.1 = some .cell ∧ ((cellsFrom (s.heap.objs.size + 1) scope.names []).lookup y.1).isSome = true) := fun y hy => by
    rcases S.par y.1 (List.of_mem_zip (a := y.1) (b := y.2) hy).1 with q | q
    · exact .inl q
    · exact .inr ⟨q, PySem.W.cellsFrom_some _ _ _ (.inl q)⟩
  refine codeAny_call_function hr.depth (KX _ _ lk) rfl S.co S.gen rfl (PySem.W.codeRec_of KX hcd) (hb _ _ _ _ (wpAny_newFunctionEnv_cells S.kind hkind fun env he s1 x => ?_))
  subst he
  refine ⟨lim.keeps x.toInCall.keep, codeAny_func ?_⟩
  have I : Inv (cxOf (L2.CX P w) P w K mg base N qual scope f cdv A outer s H E) [] (L2.start N vs) H s1 := inv_start S hr.hd e0 hl r x
  have tk : Takes (cxOf (L2.CX P w) P w K mg base N qual scope f cdv A outer s H E) (fun cls d _ H' => E cls d H') := takes_of rfl rfl rfl rfl
  have hps := hbody A outer s H E (hr.deeper _) (by show A.guards = some []; exact hG) tk (passes_of rfl)
  have hrun : rdS ⟨K, cl⟩ (fun cls d _ H' => E cls d H') δ { nx := fun _ H' => Q .non H', rt := Q } (L2.start N vs) H := by
    refine ⟨Z, startD N.length ds, μ, g, slots_start rd, ?_⟩
    unfold runBody at hp
    cases e : δ (startD N.length ds) μ with
    | nx ρ1 μ1 =>
      rw [e] at hp
      exact fun Z' H' σ' l g' _ => hp Z' H' _ l g' .non
    | rt d μ1 =>
      rw [e] at hp
      exact hp
    | exc C fs ρ1 μ1 =>
      rw [e] at hp
      exact fun Z' H' σ' dx l g' _ ex => hp Z' H' dx l g' ex
    | bk ρ1 μ1 =>
      rw [e] at hp
      exact False.elim hp
    | ct ρ1 μ1 =>
      rw [e] at hp
      exact False.elim hp
    | bad =>
      rw [e] at hp
      exact False.elim hp
  refine wpAny_mono (hps.run [] s1 (L2.start N vs) H _ I hrun) (fun fl s' hs => ?_) fun e s' hs => hs
  have fin : ∀ {σ' : St} {H' : Hp} {v : V} {u : Value}, Inv (cxOf (L2.CX P w) P w K mg base N qual scope f cdv A outer s H E) [] σ' H' s' → RelV v u → Q v H' → CE outer P w H s Q u s' := fun J rv q => ⟨_, _, J.os, J.bare, J.base, J.hok, rv, q⟩
  cases fl with
  | ret u =>
    obtain ⟨v, σ', H', J, rv, q⟩ := hs
    exact fin J rv q
  | next =>
    obtain ⟨σ', H', J, q⟩ := hs
    exact fin (v := V.non) (u := Value.none) J rfl q
  | brk =>
    obtain ⟨_, _, _, q⟩ := hs
    exact False.elim q
  | cont =>
    obtain ⟨_, _, _, q⟩ := hs
    exact False.elim q
end DL

set_option Elab.async false
set_option linter.all false
set_option autoImplicit false
set_option maxRecDepth 100000
/-! DL, part i: calls of the program's own defs. -/
namespace DL
open PySem L2

def kwNames (kws : List Keyword) : List Str := kws.filterMap (·.arg)
theorem kw_names {pos : Pos} {env : PySem.Env} : ∀ (kws : List Keyword), (backToKw pos (keywordEach kws env)).filterMap (·.1) = kwNames kws
  | [] => rfl
  | ⟨n, v, p⟩ :: r => by
    have ih := kw_names (pos := pos) (env := env) r
    unfold backToKw kwNames at ih ⊢
    cases n with
    | none => simpa [keywordEach] using ih
    | some x => simpa [keywordEach] using ih
theorem kw_all {pos : Pos} {env : PySem.Env} : ∀ {kws : List Keyword}, kws.all (·.arg.isSome) = true → (backToKw pos (keywordEach kws env)).all (·.1.isSome) = true ∧ (backToKw pos (keywordEach kws env)).any (·.1.isNone) = false
  | [], _ => ⟨rfl, rfl⟩
  | ⟨n, v, p⟩ :: r, h => by
    rw [List.all_cons] at h
    obtain ⟨h1, h2⟩ := Bool.and_eq_true_iff.mp h
    obtain ⟨i1, i2⟩ := kw_all (pos := pos) (env := env) h2
    unfold backToKw at i1 i2 ⊢
    cases n with
    | none => cases h1
    | some x =>
      refine ⟨?_, ?_⟩
      · rw [keywordEach, List.map_cons, List.all_cons, i1]
        rfl
      · rw [keywordEach, List.map_cons, List.any_cons, i2]
        rfl
theorem PK.imp {X : Cx} {e : List Keyword} {t t' : TA} (h : PK X e t) (i : ∀ σ H Q, t' σ H Q → t σ H Q) : PK X e t' := ⟨fun pos pins s σ H Q I w => h.run pos pins s σ H Q I (i σ H Q w)⟩
section
variable {X : Cx} {c : Nat → Addr} {W : WX} {pos : Pos}
theorem dk_nil : PK X [] (rdA (tb X c) W dNil) := PK.imp pk_nil fun σ H Q ⟨Z, ρ, μ, g, s, h⟩ => h Z H [] Step.rfl g .nil
theorem dk_cons {n : Option Str} {p : Pos} {e : Expr} {es : List Keyword} {δ : DenE} {δs : DenA} (ha : PE X e (rdE (tb X c) W δ)) (hr : PK X es (rdA (tb X c) W δs)) : PK X (⟨n, e, p⟩ :: es) (rdA (tb X c) W (dCons δ δs)) := by
  refine PK.imp (pk_cons ha hr) fun σ H Q h => ?_
  obtain ⟨Z, ρ, μ, g, s, h1⟩ := rd_then (R := Rep (tb X c)) (f := fun ρ x μ1 => (δs ρ μ1).bind fun xs μ2 => .ok (x :: xs) μ2) h
  refine ⟨Z, ρ, μ, g, s, post_mono h1 fun x H1 ⟨Z1, ρ1, dx, μ1, g1, s1, rx, q1⟩ => ?_⟩
  refine ⟨Z1, ρ1, μ1, g1, s1, post_mono (post_bind (R := Reps (tb X c)) q1) fun xs H2 ⟨Z2, dxs, μ2, l2, g2, rxs, q2⟩ => ?_⟩
  exact q2 Z2 H2 _ Step.rfl g2 (.cons (rx.mono l2.le) rxs)

/-- the arguments of a call, then the call itself -/
theorem args_run {α β : Type} {R : Wd → α → β → Prop} {pins : List (Addr × Obj)} {σ : St} {H : Hp} {s : Shared} {es : List Expr} {kws : List Keyword} {δs δk : DenA} {f : List D → List D → Store → Res α} {Q : β → Hp → Prop} {fv : Value} {first : List Value} {Qv : Value → Shared → Prop}
    (hk : PySem.W.keepIn X.K fv = true) (hnil : es = [] → δs = dNil) (hst : es.all notStar = true) (hkn : kws.all (·.arg.isSome) = true) (ha : PA X es (rdA (tb X c) W δs)) (hkw : PK X kws (rdA (tb X c) W δk)) (I : Inv X pins σ H s)
    (h : rdG (tb X c) R W (fun ρ μ => (δs ρ μ).bind fun ds μ1 => (δk ρ μ1).bind fun zs μ2 => f ds zs μ2) σ H Q)
    (cont : ∀ us ws s1 vs zs H1 Z ρ μ ds ks, Inv X pins σ H1 s1 → Vals vs us → Vals zs ws → Good (tb X c) Z H1 μ → Slots (tb X c) Z ρ σ → Reps (tb X c) Z ds vs → Reps (tb X c) Z ks zs → post (tb X c) R W Z H1 σ (f ds ks μ) Q →
      wpAny (model X.prog X.w) X.A (call fv (first ++ us) ((kwNames kws).zip ws)) Qv X.xe s1) :
    wpAny (model X.prog X.w) X.A (callWith pos fv first (backTo pos (starEach es X.env)) (backToKw pos (keywordEach kws X.env))) Qv X.xe s := by
  -- both readings at once
  have hd : rdA (tb X c) W δs σ H (fun vs H1 => ∃ Z ρ ds μ, Good (tb X c) Z H1 μ ∧ Slots (tb X c) Z ρ σ ∧ Reps (tb X c) Z ds vs ∧ post (tb X c) R W Z H1 σ ((δk ρ μ).bind fun zs μ2 => f ds zs μ2) Q) :=
    rd_then (R := Reps (tb X c)) (f := fun ρ ds μ1 => (δk ρ μ1).bind fun zs μ2 => f ds zs μ2) h
  have hkd : ∀ {vs : List V} {H1 : Hp}, (∃ Z ρ ds μ, Good (tb X c) Z H1 μ ∧ Slots (tb X c) Z ρ σ ∧ Reps (tb X c) Z ds vs ∧ post (tb X c) R W Z H1 σ ((δk ρ μ).bind fun zs μ2 => f ds zs μ2) Q) →
      rdA (tb X c) W δk σ H1 (fun zs H2 => ∃ Z ρ μ ds ks, Good (tb X c) Z H2 μ ∧ Slots (tb X c) Z ρ σ ∧ Reps (tb X c) Z ds vs ∧ Reps (tb X c) Z ks zs ∧ post (tb X c) R W Z H2 σ (f ds ks μ) Q) := fun {vs H1} ⟨Z, ρ, ds, μ, g, s, r, q⟩ =>
    ⟨Z, ρ, μ, g, s, post_mono (post_bind (R := Reps (tb X c)) q) fun zs H2 ⟨Z2, ks, μ2, l2, g2, r2, q2⟩ => ⟨Z2, ρ, μ2, ds, ks, g2, s.mono l2.le, r.mono l2.le, r2, q2⟩⟩
  have z : ∀ us s1 vs H1, Inv X pins σ H1 s1 → Vals vs us → (∃ Z ρ ds μ, Good (tb X c) Z H1 μ ∧ Slots (tb X c) Z ρ σ ∧ Reps (tb X c) Z ds vs ∧ post (tb X c) R W Z H1 σ ((δk ρ μ).bind fun zs μ2 => f ds zs μ2) Q) →
      wpAny (model X.prog X.w) X.A (evalAll ((backToKw pos (keywordEach kws X.env)).map (·.2))) (fun ws s2 => X.K.In s2.heap ∧ wpAny (model X.prog X.w) X.A (call fv (first ++ us) (((backToKw pos (keywordEach kws X.env)).filterMap (·.1)).zip ws)) Qv X.xe s2) X.xe s1 := by
    intro us s1 vs H1 I1 r1 q1
    refine thn (hkw.run pos pins s1 σ H1 _ I1 (hkd q1)) fun ws s2 ⟨zs, H2, I2, rz, Z, ρ, μ, ds, ks, g, sl, rd, rk, q2⟩ => ⟨I2.kIn, ?_⟩
    rw [kw_names]
    exact cont us ws s2 vs zs H2 Z ρ μ ds ks I2 r1 rz g sl rd rk q2
  obtain ⟨k1, k2⟩ := kw_all (pos := pos) (env := X.env) hkn
  cases es with
  | cons e es =>
    rw [List.all_cons] at hst
    obtain ⟨h1, h2⟩ := Bool.and_eq_true_iff.mp hst
    have hpl : ((backTo pos (starEach (e :: es) X.env)).any (·.1) || (backToKw pos (keywordEach kws X.env)).any (·.1.isNone)) = false := by
      rw [k2, star_any (by rw [List.all_cons, h1, h2]; rfl)]
      rfl
    exact PySem.W.callWith_KW (h₀ := X.base) I.ok.mod.kin hk k1 (thn (ha.run pos pins s σ H _ I hd) fun us s1 ⟨vs, H1, I1, r1, q1⟩ => z us s1 vs H1 I1 r1 q1) hpl (star_cons h1 es X.env)
  | nil =>
    have hpl : ((backTo pos (starEach [] X.env)).any (·.1) || (backToKw pos (keywordEach kws X.env)).any (·.1.isNone)) = false := by
      rw [k2]
      rfl
    refine PySem.W.callWith_KW0 (h₀ := X.base) I.ok.mod.kin hk k1 ?_ hpl
    have e := hnil rfl
    subst e
    obtain ⟨Z, ρ, μ, g, sl, q⟩ := hd
    exact z [] s [] H I .nil (q Z H [] Step.rfl g .nil)
end

/-! ### how arguments come to parameters -/
/-- np values by place, then the values of the keywords ks; g puts them in the parameters' order, defaults among them -/
def KB (T : Tab) (fd : FuncData) (ps ks : List Str) (np : Nat) (g : List D → List D → List D) : Prop := ∀ (s : Shared) (us ws : List Value), T.K.In s.heap → us.length = np → ws.length = ks.length →
  ∃ bs : List Value, bs.length = ps.length ∧ BindsTo s fd ⟨us, ks.zip ws⟩ (ps.zip bs) ∧ ∀ vs zs, Vals vs us → Vals zs ws → ∃ bv, Vals bv bs ∧ ∀ Z ds es, Reps T Z ds vs → Reps T Z es zs → Reps T Z (g ds es) bv
/-- all by place -/
theorem kb_pos {T : Tab} {fd : FuncData} {ps : List Str} (h : Binds T.K fd ps []) : KB T fd ps [] ps.length (fun ds _ => ds) := fun s us ws KX hu hw => by
  have e := h s us KX (by rw [List.append_nil]; exact hu)
  rw [List.append_nil] at e
  exact ⟨us, hu, e, fun vs zs r _ => ⟨vs, r, fun Z ds es q _ => q⟩⟩
def dCallK (np nk : Nat) (g : List D → List D → List D) (m : Mir) (δs δk : DenA) : DenE := fun ρ μ => (δs ρ μ).bind fun ds μ1 => (δk ρ μ1).bind fun zs μ2 => if ds.length = np ∧ zs.length = nk then m (g ds zs) μ2 else .bad
section
variable {X : Cx} {c : Nat → Addr} {W : WX} {pos p : Pos} {x : Str} {es : List Expr} {kws : List Keyword} {δs δk : DenA} {k np : Nat} {f : Addr} {fd : FuncData} {ps : List Str} {m : Mir} {g : List D → List D → List D}
theorem de_call (F : GnOk X.prog X.w X.K X.mg X.base k f fd ps (spM (tb X c) ps.length m)) (hr : Room k X.A) (hG : X.A.guards = some []) (tk : Takes X W) (hg : Gl X x) (hm : X.mg x = some (.ref f)) (hk : PySem.W.keepIn X.K (.ref f) = true)
    (hb : KB (tb X c) fd ps (kwNames kws) np g) (hdb : (x == ("__debug__" : Str)) = false) (hnil : es = [] → δs = dNil) (hst : es.all notStar = true) (hkn : kws.all (·.arg.isSome) = true) (ha : PA X es (rdA (tb X c) W δs)) (hkw : PK X kws (rdA (tb X c) W δk)) :
    PE X (.Call (.Name x p) es kws pos) (rdE (tb X c) W (dCallK np (kwNames kws).length g m δs δk)) := by
  refine ⟨fun pins s σ H Q I h => ?_⟩
  refine wpAny_Call_Name_kw (ld_glob I hg hm ?_ hdb)
  refine args_run hk hnil hst hkn ha hkw I (f := fun ds zs μ2 => if ds.length = np ∧ zs.length = (kwNames kws).length then m (g ds zs) μ2 else .bad) h fun us ws s1 vs zs H1 Z ρ μ ds es' I1 r1 rz gd sl rd rk q => ?_
  by_cases hl : ds.length = np ∧ es'.length = (kwNames kws).length
  · rw [if_pos hl] at q
    obtain ⟨bs, b1, b2, b3⟩ := hb s1 us ws I1.kIn (by rw [← r1.length, ← rd.length]; exact hl.1) (by rw [← rz.length, ← rk.length]; exact hl.2)
    obtain ⟨bv, v1, v2⟩ := b3 vs zs r1 rz
    refine run_gn (args := ⟨us, (kwNames kws).zip ws⟩) F hr hG tk I1 b2 v1 ⟨by rw [v1.length, b1], Z, g ds es', μ, gd, v2 Z ds es' rd rk, ?_⟩
    exact post_w q fun _ _ _ z => z
  · rw [if_neg hl] at q
    exact False.elim q
end
end DL

set_option Elab.async false
set_option linter.all false
set_option autoImplicit false
set_option maxRecDepth 100000
/-! DL, part j: list comprehensions. -/
namespace DL
open PySem L2

def wipeD (ρ : Env) : List Nat → Env
  | [] => ρ
  | i :: r => wipeD (ρ.set i none) r
theorem wipeD_at {j : Nat} : ∀ {vs : List Nat} {ρ : Env} {d : D}, (wipeD ρ vs)[j]? = some (some d) → j ∉ vs ∧ ρ[j]? = some (some d)
  | [], _, _, h => ⟨by simp, h⟩
  | i :: r, ρ, d, h => by
    obtain ⟨h1, h2⟩ := wipeD_at (vs := r) h
    by_cases e : i = j
    · subst e
      by_cases hl : i < ρ.length
      · rw [List.getElem?_set_self hl] at h2
        cases h2
      · rw [List.getElem?_eq_none (by simp; omega)] at h2
        cases h2
    · rw [List.getElem?_set_ne e] at h2
      exact ⟨by simp [Ne.symm e, h1], h2⟩
theorem wipeD_len : ∀ {vs : List Nat} {ρ : Env}, (wipeD ρ vs).length = ρ.length
  | [], _ => rfl
  | i :: r, ρ => by
    show (wipeD (ρ.set i none) r).length = _
    rw [wipeD_len, List.length_set]
theorem slots_blk {T : Tab} {Z : Wd} {σ : St} {ρ : Env} {vs : List Nat} (h : Slots T Z ρ σ) : Slots T Z (wipeD ρ vs) (wipe σ vs) := by
  refine ⟨by rw [wipeD_len, wipe_length]; exact h.1, fun i d e => ?_⟩
  obtain ⟨h1, h2⟩ := wipeD_at e
  obtain ⟨v, h3, h4⟩ := h.2 i d h2
  exact ⟨v, by rw [wipe_out h1]; exact h3, h4⟩
/-- no exception leaves -/
def noX {α : Type} (r : Res α) : Res α := match r with
  | .ok a μ => .ok a μ
  | _ => .bad
/-- what a turn's target makes of the slots -/
abbrev DenV := D → Env → Option Env
def vName (i : Nat) : DenV := fun d ρ => some (ρ.set i (some d))
def vTup2 (i j : Nat) : DenV := fun d ρ => match d with
  | .tup [x, y] => some ((ρ.set i (some x)).set j (some y))
  | _ => none
def lcL (γ : DenV) (τ : DenT) (ε : DenE) (ρ : Env) : List D → List D → Store → Res (List D)
  | [], acc, μ => .ok acc μ
  | d :: ds, acc, μ => match γ d ρ with
    | none => .bad
    | some ρ1 => (noX (τ ρ1 μ)).bind fun b μ2 => if b = true then (noX (ε ρ1 μ2)).bind fun y μ3 => if acc.length < sizeLine then lcL γ τ ε ρ ds (acc ++ [y]) μ3 else .bad else lcL γ τ ε ρ ds acc μ2
def kLs (xs : List D) (μ : Store) : Res D := .ok (.lst xs) μ
def dLc (own : List Nat) (it : DenI) (γ : DenV) (τ : DenT) (ε : DenE) : DenE := fun ρ μ => (it ρ μ).bind fun items μ1 => (lcL γ τ ε (wipeD ρ own) items [] μ1).bind kLs
def tYesD : DenT := fun _ μ => .ok true μ
abbrev W0 : WX := fun _ _ _ _ => False
theorem post_noX {α β : Type} {T : Tab} {R : Wd → α → β → Prop} {W : WX} {Z : Wd} {H : Hp} {σ σ' : St} {r : Res α} {Q : β → Hp → Prop} (h : post T R W Z H σ (noX r) Q) : post T R W0 Z H σ' r Q := by
  cases r with
  | ok d μ => exact h
  | exc C fs μ => exact False.elim h
  | bad => exact h
/-- a target's reading g in a comprehension's block does what γ says, and changes the block's own slots alone -/
def TgOk (T : Tab) (own : List Nat) (g : TG) (γ : DenV) : Prop := ∀ Z H μ (ρ ρ1 : Env) (σ : St) (d : D) (v : V) (Q : St → Hp → Prop), Good T Z H μ → Slots T Z ρ (wipe σ own) → Rep T Z d v → γ d ρ = some ρ1 → (∀ σ2, wipe σ2 own = wipe σ own → Slots T Z ρ1 σ2 → Q σ2 H) → g v (wipe σ own) H Q
theorem wipe_set {σ : St} {i : Nat} {x : Option V} : ∀ {vs : List Nat}, i ∈ vs → wipe (σ.set i x) vs = wipe σ vs := by
  have one : ∀ (σ : St) (vs : List Nat) (i : Nat), i ∈ vs → ∀ x, wipe (σ.set i x) vs = wipe σ vs := by
    intro σ vs i hi x
    apply List.ext_getElem?
    intro j
    by_cases hj : j ∈ vs
    · -- both are forgotten there
      have a1 : ∀ τ : St, τ.length = σ.length → (wipe τ vs)[j]? = if j < σ.length then some none else none := fun τ hτ => by
        by_cases hl : j < σ.length
        · rw [if_pos hl]
          cases e : (wipe τ vs)[j]? with
          | none =>
            rw [List.getElem?_eq_none_iff, wipe_length] at e
            omega
          | some o =>
            cases o with
            | none => rfl
            | some v => exact absurd hj (wipe_some e).2
        · rw [if_neg hl, List.getElem?_eq_none_iff, wipe_length]
          omega
      rw [a1 _ (by simp), a1 _ rfl]
    · rw [wipe_out hj, wipe_out hj, List.getElem?_set_ne (fun e => hj (by rw [← e]; exact hi))]
  intro vs hi
  exact one σ vs i hi x
theorem wipe_wipe {σ : St} {vs : List Nat} : wipe (wipe σ vs) vs = wipe σ vs := by
  apply List.ext_getElem?
  intro j
  by_cases hj : j ∈ vs
  · cases e : (wipe (wipe σ vs) vs)[j]? with
    | none =>
      rw [List.getElem?_eq_none_iff, wipe_length] at e
      rw [List.getElem?_eq_none_iff.mpr e]
    | some o =>
      cases o with
      | some v => exact absurd hj (wipe_some e).2
      | none =>
        cases e2 : (wipe σ vs)[j]? with
        | none =>
          rw [List.getElem?_eq_none_iff] at e2
          rw [List.getElem?_eq_none_iff.mpr (by rw [wipe_length]; exact e2)] at e
          cases e
        | some o2 =>
          cases o2 with
          | none => rfl
          | some v => exact absurd hj (wipe_some e2).2
  · rw [wipe_out hj]
theorem tg_name {T : Tab} {own : List Nat} {i : Nat} (hi : i ∈ own) : TgOk T own (gName i) (vName i) := fun Z H μ ρ ρ1 σ d v Q g s r e k => by
  cases e
  exact k _ (by rw [wipe_set hi, wipe_wipe]) (s.set r i)
theorem tg_tup2 {T : Tab} {own : List Nat} {i j : Nat} (hi : i ∈ own) (hj : j ∈ own) : TgOk T own (gTup T.K 2 (gCons (gName i) (gCons (gName j) gNil))) (vTup2 i j) := fun Z H μ ρ ρ1 σ d v Q g s r e k => by
  unfold vTup2 at e
  split at e
  · rename_i x y
    cases e
    cases r with
    | @tup a vs ds hq r =>
      cases r with
      | @cons d1 v1 ds1 vs1 r1 r2 =>
        cases r2 with
        | @cons d2 v2 ds2 vs2 r2 r3 =>
          cases r3
          refine ⟨a, _, rfl, Same.sqt g.sub hq, rfl, v1, _, rfl, v2, _, rfl, rfl, ?_⟩
          exact k _ (by rw [wipe_set hj, wipe_set hi, wipe_wipe]) ((s.set r1 i).set r2 j)
  · cases e
theorem rd_lc {T : Tab} {W : WX} {own : List Nat} {it : DenI} {γ : DenV} {τ : DenT} {ε : DenE} {g : TG} {σ : St} {H : Hp} {Q : VK} (tg : TgOk T own g γ) (h : rdE T W (dLc own it γ τ ε) σ H Q) :
    tLc (rdI T W it) g (rdT T W0 τ) (rdE T W0 ε) own σ H Q := by
  obtain ⟨Z, ρ, μ, g0, s, h1⟩ := rd_then (R := RI T) (f := fun ρ items μ1 => (lcL γ τ ε (wipeD ρ own) items [] μ1).bind kLs) h
  refine ⟨Z, ρ, μ, g0, s, post_mono h1 fun J H1 ⟨Z1, ρ1, items, μ1, g1, s1, ri, q1⟩ => ?_⟩
  intro L hD
  refine ⟨fun i m H' => ∃ Z' μ' acc vs, Step Z1 H1 Z' H' ∧ Good T Z' H' μ' ∧ L ∉ Z'.f ∧ Z'.g L = none ∧ H' L = some (.lst vs) ∧ Reps T Z' acc vs ∧ m = (items.drop i).length ∧ i ≤ items.length ∧ post T (Rep T) W Z1 H1 σ ((lcL γ τ ε (wipeD ρ1 own) (items.drop i) acc μ').bind kLs) Q, ⟨_, Z1, μ1, [], [], ?_, ?_, ?_, g1.free hD, upd_same, .nil, rfl, Nat.zero_le _, q1⟩, ?_⟩
  · exact ⟨Le.refl Z1, fun a o e n => ⟨by rw [upd_ne (ne_of_none e hD)]; exact e, n, fun z => z⟩⟩
  · exact g1.over _ (fun hm => g1.there L hm hD) (g1.free hD)
  · exact fun hm => g1.there L hm hD
  rintro i m H' ⟨Z', μ', acc, vs, st, g', nf, ng, hl, ra, hm, hle, q'⟩
  obtain ⟨go, stop⟩ := ri Z' H' μ' i st.le g'
  by_cases hi : i < items.length
  · obtain ⟨j1, j2⟩ := go hi
    rw [List.drop_eq_getElem_cons hi] at q' hm
    refine .inr ⟨j1, fun H2 => ∃ Z' μ' acc vs, Step Z1 H1 Z' H2 ∧ Good T Z' H2 μ' ∧ L ∉ Z'.f ∧ Z'.g L = none ∧ H2 L = some (.lst vs) ∧ Reps T Z' acc vs ∧ post T (Rep T) W Z1 H1 σ ((lcL γ τ ε (wipeD ρ1 own) (items.drop (i + 1)) acc μ').bind kLs) Q, fun H2 ⟨Z2, μ2, acc2, vs2, t1, t2, t3, t4, t5, t6, t7⟩ => ⟨_, ?_, Z2, μ2, acc2, vs2, t1, t2, t3, t4, t5, t6, rfl, hi, t7⟩, fun x H2 y => ?_⟩
    · rw [hm, List.length_cons]
      exact Nat.lt_succ_self _
    · obtain ⟨Z2, d, st2, g2, e2, r2⟩ := j2 x H2 y
      have e3 : items[i] = d := Option.some.inj ((List.getElem?_eq_getElem hi).symm.trans e2)
      rw [e3] at q'
      simp only [lcL] at q'
      have f2 := st2.fr L _ hl nf
      cases eg : γ d (wipeD ρ1 own) with
      | none =>
        rw [eg] at q'
        exact False.elim q'
      | some ρ3 =>
        rw [eg] at q'
        refine tg Z2 H2 μ' (wipeD ρ1 own) ρ3 σ d x _ g2 (slots_blk (s1.mono (st.le.trans st2.le))) r2 eg fun σ2 hw s2 => ⟨hw, ?_⟩
        -- the test
        have stz := st.trans st2
        have bind2 : ∀ {α β : Type} {R : Wd → α → β → Prop} (r : Res α) (f : α → Store → Res (List D)) (Zc : Wd) (Hc : Hp), Step Z1 H1 Zc Hc → post T (Rep T) W Z1 H1 σ (((noX r).bind f).bind kLs) Q →
            post T R W0 Zc Hc σ2 r (fun v H' => ∃ Z' a μ, Step Zc Hc Z' H' ∧ Good T Z' H' μ ∧ R Z' a v ∧ post T (Rep T) W Z1 H1 σ ((f a μ).bind kLs) Q) := by
          intro α β R r f Zc Hc stc q
          cases r with
          | ok a μ => exact fun Z3 H3 v l g r => ⟨Z3, a, μ, l, g, r, q⟩
          | exc C fs μ => exact False.elim q
          | bad => exact False.elim q
        refine ⟨Z2, ρ3, μ', g2, s2, post_mono (bind2 (R := EqB) _ _ Z2 H2 stz q') fun b H3 ⟨Z3, b1, μ3, st3, g3, rb, q3⟩ => ?_⟩
        have rb' : b1 = b := rb
        subst rb'
        have f3 := st3.fr L _ f2.1 f2.2.1
        cases b1 with
        | false =>
          rw [if_neg Bool.false_ne_true] at q3 ⊢
          exact ⟨Z3, μ3, acc, vs, stz.trans st3, g3, f3.2.1, f3.2.2 (f2.2.2 ng), f3.1, ra.mono (st2.le.trans st3.le), q3⟩
        | true =>
          rw [if_pos rfl] at q3 ⊢
          refine ⟨Z3, ρ3, μ3, g3, s2.mono st3.le, post_mono (bind2 (R := Rep T) _ _ Z3 H3 (stz.trans st3) q3) fun y H4 ⟨Z4, dy, μ4, st4, g4, ry, q4⟩ => ?_⟩
          have f4 := st4.fr L _ f3.1 f3.2.1
          have n4 := f4.2.2 (f3.2.2 (f2.2.2 ng))
          have ra4 := ra.mono ((st2.le.trans st3.le).trans st4.le)
          by_cases hz : acc.length < sizeLine
          · rw [if_pos hz] at q4
            have sta := (stz.trans st3).trans st4
            refine ⟨vs, f4.1, by rw [← ra4.length]; exact hz, Z4, μ4, acc ++ [dy], vs ++ [y], ⟨sta.le, fun a o e n => ?_⟩, g4.over _ f4.2.1 n4, f4.2.1, n4, upd_same, ra4.append (.cons ry .nil), q4⟩
            have z := sta.fr a o e n
            exact ⟨by rw [upd_ne (ne_of_none e hD)]; exact z.1, z.2.1, z.2.2⟩
          · rw [if_neg hz] at q4
            exact False.elim q4
  · rw [List.drop_eq_nil_of_le (by omega)] at q'
    obtain ⟨l2, g2⟩ := g'.adopt hl nf ng
    refine .inl ⟨stop (by omega), q' (Z'.add L (.lst vs)) H' _ ⟨st.le.trans l2, fun a o e n => ?_⟩ g2 (.lst upd_same (ra.mono l2))⟩
    have z := st.fr a o e n
    refine ⟨z.1, z.2.1, fun q => ?_⟩
    show upd Z'.g L (.lst vs) a = none
    rw [upd_ne (ne_of_none e hD)]
    exact z.2.2 q

section
variable {X : Cx} {c : Nat → Addr} {W : WX} {pos : Pos} {elt tg iter : Expr} {ifs : List Expr} {scope : Scope} {own : List (Str × Nat)} {it : DenI} {γ : DenV} {τ : DenT} {ε : DenE} {g : TG}
theorem dts_nil : PTs X [] (rdT (tb X c) W tYesD) := ⟨fun pins s σ H Q I ⟨Z, ρ, μ, g, sl, h⟩ => pts_nil.run pins s σ H Q I (h Z H true Step.rfl g rfl)⟩
theorem dts_one {t : Expr} (h : PT X t (rdT (tb X c) W τ)) : PTs X [t] (rdT (tb X c) W τ) := pts_one h
/-- a comprehension's block -/
abbrev Blk (X : Cx) (scope : Scope) (P : Cx → Prop) : Prop := ∀ (s : Shared) (H : Hp) (C : Addr) (cl : List (Str × Addr)) (fp : List Addr), P (X.blk s H scope (compEnvC scope cl C X.env) fp)
theorem de_lc (hc : X.calm = true) (hN : X.N.Nodup) (hi : PI X tg iter (rdI (tb X c) W it)) (ok : BlkOk X.N X.env.scope scope own) (hg : Blk X scope fun Y => PG Y tg g) (tgk : TgOk (tb X c) (own.map (·.2)) g γ)
    (ht : Blk X scope fun Y => PTs Y ifs (rdT (tb X c) W0 τ)) (he : Blk X scope fun Y => PE Y elt (rdE (tb X c) W0 ε)) (hs : ∀ x, foldedSetIterable iter X.env x = pure x) :
    PE X (.ListComp elt [⟨tg, iter, ifs, 0⟩] scope pos) (rdE (tb X c) W (dLc (own.map (·.2)) it γ τ ε)) :=
  PE.imp (pe_lc hc hN hi ok hg ht he hs) fun _ _ _ h => rd_lc tgk h
theorem ds_setLc {i : Nat} {y : Str} {py spos : Pos} (hc : X.calm = true) (hN : X.N.Nodup) (hy : X.N[i]? = some y) (hyl : X.env.scope.names.lookup y = some .local) (hsw : swapsWith (.ListComp elt [⟨tg, iter, ifs, 0⟩] scope pos) (some (.Name y py)) spos.line X.env = pure true)
    (hi : PI X tg iter (rdI (tb X c) W it)) (ok : BlkOk X.N X.env.scope scope own) (hg : Blk X scope fun Y => PG Y tg g) (tgk : TgOk (tb X c) (own.map (·.2)) g γ) (ht : Blk X scope fun Y => PTs Y ifs (rdT (tb X c) W0 τ)) (he : Blk X scope fun Y => PE Y elt (rdE (tb X c) W0 ε))
    (hs : ∀ x, foldedSetIterable iter X.env x = pure x) : PS X (.Assign [.Name y py] (.ListComp elt [⟨tg, iter, ifs, 0⟩] scope pos) spos) (rdS (tb X c) W (sSet i (dLc (own.map (·.2)) it γ τ ε))) := by
  refine PS.imp (ps_setLc hc hN hy hyl hsw hi ok hg ht he hs) fun E σ H ⟨Z, ρ, μ, g0, s, q⟩ => ?_
  refine rd_lc tgk ⟨Z, ρ, μ, g0, s, post_mono (post_bindS (R := Rep (tb X c)) s q) fun v H1 ⟨Z1, d, μ1, l, g1, s1, r, q1⟩ => ?_⟩
  exact q1 Z1 H1 _ Step.rfl g1 (s1.set r i)
end
end DL

set_option Elab.async false
set_option linter.all false
set_option autoImplicit false
set_option maxRecDepth 100000
/-! DL, part x: exceptions of the program's own classes as values, made with arguments by place and by name. -/
namespace PySem
namespace DLX
open PySem.W PySem.Calls PyProof.Rows PySem.HandSPX

section
variable {prog : Program} {w : World} {A : Around} {E : Value → Shared → Prop} {R : Result → Shared → Prop} {h : Heap} {g : Array GenState} {d : Drawn} {t : Nat} {os : OsState}
variable {nm q : Str} {C N : Addr} {bs bm bmB : List Value} {hdct : Bool} {sn : List Str} {sub : List Value} {ab : Bool} {col : Option Bool} {dd : Option Addr} {k0 k1 k2 k3 k5 : Option Value} {B newId initId : String}
/-- the new exception's own two objects -/
abbrev twoO (h : Heap) (C : Addr) (rest : List Value) : Heap := (h.push (W.kdv_tup rest)).push (excO C h.objs.size)
theorem check_kw (F : ExcBaseFacts B newId initId bmB) (hT : ∀ X : String, bm.contains (.type X) = bmB.contains (.type X)) {rest : List Value} {kw : List (Str × Value)} {Q : Unit → Shared → Prop}
    (hC : h.get? C = some (excClassObj nm q C N bs bm hdct sn sub ab col dd k0 k1 k2 k3 k5 newId)) (hq : Q () ⟨h, g, d, t, os⟩) : wpAny (model prog w) A (checkBuiltinCall newId ⟨.ref C :: rest, kw⟩) Q E ⟨h, g, d, t, os⟩ := by
  have hB : (Value.ref C :: bm).contains (.type B) = true := by
    rw [List.contains_cons, hT, F.hasB, Bool.or_true]
  have ns := F.noStar
  simp only [checkBuiltinCall, F.newKind, F.newSplit, F.newRow]
  repeat (first
    | refine wpAny_loadPart_at hC ?_
    | (refine wpAny_isSubtype_exc hC ?_; rw [hB])
    | refine wpAny_staticBase_exc hC ?_
    | refine wpAny_madeBy_exc hC ?_
    | simp only [bne_self_eq_false, Bool.false_eq_true, if_false]
    | wp_step)
  exact hq
theorem new_kw (F : ExcBaseFacts B newId initId bmB) (hT : ∀ X : String, bm.contains (.type X) = bmB.contains (.type X)) {rest : List Value} {kw : List (Str × Value)}
    (hC : h.get? C = some (excClassObj nm q C N bs bm hdct sn sub ab col dd k0 k1 k2 k3 k5 newId)) (hr : rest.length ≤ sizeLine) (hq : R (.ok (.ret (.ref (h.objs.size + 1)))) ⟨twoO h C rest, g, d, t, os⟩) :
    codeAny (model prog w) A (.builtin newId ⟨.ref C :: rest, kw⟩) R ⟨h, g, d, t, os⟩ := by
  have he := F.ends
  have hB : (Value.ref C :: bm).contains (.type B) = true := by
    rw [List.contains_cons, hT, F.hasB, Bool.or_true]
  have hA : (Value.ref C :: bm).contains (.type "AttributeError") = false := by
    rw [List.contains_cons, hT, F.noAttr] <;> rfl
  have hN : (Value.ref C :: bm).contains (.type "NameError") = false := by
    rw [List.contains_cons, hT, F.noName] <;> rfl
  refine codeAny_builtinAt F.entry ?_
  unfold Builtin.«BaseException.__new__»
  refine wpAt_bind ?_
  show wpAt _ _ _ (stack >>= _) _ _ _
  refine wpAt_bind (wpAt_stack fun p below => wpAt_of_wpAny ?_)
  wp_walk
  refine wpAt_of_wpAny ?_
  rw [F.owner]
  repeat (first
    | with_reducible refine wpAny_madeHere_exc F.canon hC ?_
    | with_reducible refine wpAny_loadPart_at hC ?_
    | (with_reducible refine wpAny_isSubtype_exc hC ?_; first | rw [hB] | rw [hA] | rw [hN])
    | wp_step)
  show R _ _
  rw [Heap.size_push]
  exact hq
/-- type.__call__: the new object, then __init__ -/
theorem make_kw (F : ExcBaseFacts B newId initId bmB) (hT : ∀ X : String, bm.contains (.type X) = bmB.contains (.type X)) {rest : List Value} {kw : List (Str × Value)} {fI : Addr} {Q : Fin → Shared → Prop}
    (hC : h.get? C = some (excClassObj nm q C N bs bm hdct sn sub ab col dd k0 k1 k2 k3 k5 newId))
    (hi : W.Looks (model prog w) h (typeLookup (.ref C) "__init__") (some (.ref fI))) (hb : ∀ self, W.Looks (model prog w) h (bindSpecial (.ref fI) self) (.ref fI, [self])) (hr : rest.length ≤ sizeLine)
    (hq : codeAny (model prog w) A (.call (.ref fI) ⟨.ref (h.objs.size + 1) :: rest, kw⟩)
      (fun r s' => match r with
        | .ok (.ret v) => v = .none ∧ Q (.done (.ret (.ref (h.objs.size + 1)))) s'
        | .ok _ => False
        | .error e => E e s') ⟨twoO h C rest, g, d, t, os⟩) :
    wpAny (model prog w) A (Builtin.«type.__call__» ⟨.ref C :: rest, kw⟩) Q E ⟨h, g, d, t, os⟩ := by
  repeat (first
    | with_reducible refine wpAny_loadPart_at hC ?_
    | with_reducible refine wpAny_madeBy_exc hC ?_
    | wp_step)
  refine codeAny_call_builtin_code (Code.quiet_builtin _ F.quiet) (check_kw F hT hC (new_kw F hT hC hr ?_))
  show wpAny _ _ _ _ _ _
  have kp : ∀ b o, h.get? b = some o → (twoO h C rest).get? b = some o := fun b o e => Heap.get?_push_of_some _ (Heap.get?_push_of_some _ e)
  have c1 := kp _ _ hC
  have ge : (twoO h C rest).get? (h.objs.size + 1) = some (excO C h.objs.size) := by heap_get
  have hcC : (Value.ref C :: bm).contains (.ref C) = true := by simp
  have i1 := hi.keeps kp
  have b1 := (hb (.ref (h.objs.size + 1))).keeps kp
  unfold isInstance
  repeat (first
    | with_reducible refine wpAny_loadPart_at ge ?_
    | (with_reducible refine wpAny_isSubtype_exc c1 ?_; rw [hcC])
    | wp_step)
  show wpAny _ _ (typeLookup (.ref C) _) _ _ _
  refine i1.at (wpAny_holding (wpAny_bind (b1.at (wpAny_bind (wpAny_call (codeAny_mono hq fun r s' z => ?_))))))
  rcases r with e | (v | _ | _ | _) <;> first | exact z | exact z.elim | skip
  obtain ⟨rfl, z⟩ := z
  first
    | exact wpAny_pure (wpAny_pure z)
    | (wp_walk; exact z)
theorem call_kw (F : ExcBaseFacts B newId initId bmB) (hT : ∀ X : String, bm.contains (.type X) = bmB.contains (.type X)) {rest : List Value} {kw : List (Str × Value)} {fI : Addr}
    (hC : h.get? C = some (excClassObj nm q C N bs bm hdct sn sub ab col dd k0 k1 k2 k3 k5 newId))
    (hi : W.Looks (model prog w) h (typeLookup (.ref C) "__init__") (some (.ref fI))) (hb : ∀ self, W.Looks (model prog w) h (bindSpecial (.ref fI) self) (.ref fI, [self])) (hr : rest.length ≤ sizeLine)
    (hq : codeAny (model prog w) (A.under (.builtin "type.__call__" ⟨.ref C :: rest, kw⟩)) (.call (.ref fI) ⟨.ref (h.objs.size + 1) :: rest, kw⟩) (W.InitBack (h.objs.size + 1) R) ⟨twoO h C rest, g, d, t, os⟩) :
    codeAny (model prog w) A (.call (.ref C) ⟨rest, kw⟩) R ⟨h, g, d, t, os⟩ := by
  have f1 := tc_lookup
  have f2 := tc_bind (.ref C)
  have ty : (⟨h, g, d, t, os⟩ : Shared).TypeIs (.ref C) "type" := ⟨_, hC, rfl⟩
  refine codeAny_of_tree ?_
  show wpAny _ _ (callAny (.ref C) _) _ _ _
  repeat (any_goals (first | assumption | with_reducible refine wpAny_loadPart_at hC ?_ | wp_step))
  refine ⟨rfl, codeAny_call_builtin_at (Code.quiet_builtin _ (by decide +kernel)) entry_typeCall (wpAny_check_type_call_sub hC (make_kw F hT hC hi hb hr (codeAny_mono hq fun r s' z => ?_)))⟩
  rcases r with e | (v | _ | _ | _) <;> exact z
end

end DLX
end PySem

set_option Elab.async false
set_option linter.all false
set_option autoImplicit false
set_option maxRecDepth 100000
/-! DL, part y: the fields of own exceptions. -/
namespace PySem
namespace DLX
open PySem.W PySem.Calls PyProof.Rows PySem.HandSPX
open Builtin Builtin.ObjectAttr

/-! ### self.name = v on such an object -/
section
variable {prog : Program} {w : World} {A : Around} {E : Value → Shared → Prop} {R : Result → Shared → Prop} {hp : Heap} {g : Array GenState} {d : Drawn} {t : Nat} {os : OsState}
/-- what the written part says of an own exception class, over the built-in one whose chain is bmB -/
structure Over (K : W.Frag) (C : Addr) (bmB : List Value) (cd : ClassData) : Prop where
  cls : W.clsIn K C = some cd
  mro : ∃ bm, cd.mro = .ref C :: bm ∧ excTail bmB bm = true
  dic : cd.hasDict = true
  obj : bmB.contains (.type "object") = true
  pas : ∀ self, refuseLoop self "__setattr__" bmB = pure ()
variable {K : W.Frag} {C : Addr} {bmB : List Value} {cd : ClassData}
theorem Over.tail (O : Over K C bmB cd) : excTail bmB cd.mro = true ∨ cd.mro = bmB ∨ ∃ bm, cd.mro = .ref C :: bm ∧ excTail bmB bm = true := .inr (.inr O.mro)
theorem Over.has (O : Over K C bmB cd) : cd.mro.contains (.type "object") = true := by
  obtain ⟨bm, e, h⟩ := O.mro
  rw [e, List.contains_cons, excTail_contains "object" _ h, O.obj]
  rfl
theorem Over.ne (O : Over K C bmB cd) : cd.mro.isEmpty = false := by
  obtain ⟨bm, e, _⟩ := O.mro
  rw [e]
  rfl
theorem Over.pass (O : Over K C bmB cd) (self : Value) : refuseLoop self "__setattr__" cd.mro = pure () := by
  obtain ⟨bm, e, h⟩ := O.mro
  rw [e, refuseLoop_ref]
  exact excTail_pass self (O.pas self) _ h
/-- the way to the store itself -/
theorem osa_way {name : Str} {tk : Tok} {v : Value} {x : Addr} {ox : Obj} {od : Option Obj} (O : Over K C bmB cd) (X : K.In hp) (I : W.InstAt hp x ox C od) (ha : W.findIn K (.ref C) name = some none)
    (h : wpAny (model prog w) A.in1 (storeInOwnDict (.ref x) (.ref C) (.str name tk) name v false) (GQ.FinOf prog w A R) (fun e s' => R (.error e) s') ⟨hp, g, d, t, os⟩) :
    codeAny (model prog w) A (.call (.builtin "object.__setattr__") ⟨[.ref x, .str name tk, v], []⟩) R ⟨hp, g, d, t, os⟩ := by
  have SF := F.store_object
  have sb : W.Looks (model prog w) hp (isInstance (.ref x) (.type "object")) true := I.type.andThen (W.looks_mroIn X (by
    unfold W.mroIn
    rw [O.cls, Option.bind_some, if_neg (by rw [O.ne]; decide), O.has]))
  refine codeAny_call_builtin SF.slot.plain SF.entry (@W.check_slot (model prog w) _ _ ⟨hp, g, d, t, os⟩ "object.__setattr__" "object" "__setattr__" (.ref x) [.str name tk, v] [] _ SF.kind SF.split sb (SF.args (.ref x) (.str name tk) v) ?_)
  have mr : W.Looks (model prog w) hp (mroOf (.ref C)) cd.mro := (W.looks_clsIn X O.cls).andThen .now
  have st : W.Looks (model prog w) hp (storeTaker? none) none := .now
  rw [W.osa_eq, refuse_eq]
  refine wpAny_bind (wpAny_bind (I.type.at (wpAny_bind (mr.at ?_))))
  rw [O.pass]
  exact wpAny_pure (wpAny_bind (I.type.at (wpAny_bind ((W.looks_findIn X ha).at (wpAny_bind (st.at h))))))
/-- the first field: the object's dict is made -/
theorem store_first {name : Str} {tk : Tok} {v : Value} {x : Addr} {fv : Array Value} (O : Over K C bmB cd) (X : K.In hp) (hx : hp.get? x = some { cls := .ref C, data := .fields fv }) (ha : W.findIn K (.ref C) name = some none)
    (hq : ∀ h' tk' dx, (∀ b o, b ≠ x → hp.get? b = some o → h'.get? b = some o) → hp.objs.size ≤ dx → dx ≠ x → h'.get? x = some { cls := .ref C, dict := some dx, data := .fields fv } →
      h'.Ns1 dx (fun y => if y = name then some v else none) → R (.ok (.ret .none)) ⟨h', g, d, tk', os⟩) :
    codeAny (model prog w) A (.call (.builtin "object.__setattr__") ⟨[.ref x, .str name tk, v], []⟩) R ⟨hp, g, d, t, os⟩ := by
  refine osa_way O X (ox := { cls := .ref C, data := .fields fv }) (od := none) ⟨hx, rfl, rfl, trivial⟩ ha ?_
  have xs : x ≠ hp.objs.size := Nat.ne_of_lt (Heap.lt_size hx)
  have hc : W.Looks (model prog w) hp (classData C) cd := W.looks_clsIn X O.cls
  have hh := O.dic
  obtain ⟨nm, bs, mro, ns, qn, hd, sn, sb, ab, col, del⟩ := cd
  dsimp only at hh
  subst hh
  unfold storeInOwnDict ownDictForStores
  repeat (first
    | with_reducible refine store_in_new ?_ ?_
    | with_reducible refine wpAny_loadPart_at hx ?_
    | with_reducible refine hc.at ?_
    | wp_step)
  · exact ⟨_, #[], _, (Heap.get?_update_ne _ _ _ _ xs.symm).trans (Heap.get?_push_at rfl rfl), rfl, fun e he => absurd he (by simp), fun _ => rfl⟩
  · intro h' tk' hn' hs
    have x1 : (hp.push { cls := .type "dict", data := .dict #[] }).get? x = some { cls := .ref C, data := .fields fv } := Heap.get?_push_of_some _ hx
    refine hq h' tk' hp.objs.size (fun b o hb ho => ?_) (Nat.le_refl _) xs.symm ((hs.2 x xs).trans (Heap.get?_update_self _ x1 rfl)) hn'
    exact (hs.2 b (Nat.ne_of_lt (Heap.lt_size ho))).trans ((Heap.get?_update_ne _ _ _ _ hb).trans (Heap.get?_push_of_some _ ho))
/-- a further field -/
theorem store_next {name : Str} {tk : Tok} {v : Value} {x dx : Addr} {fv : Array Value} {m0 : Str → Option Value} {nl : List Str} (O : Over K C bmB cd) (X : K.In hp) (hx : hp.get? x = some { cls := .ref C, dict := some dx, data := .fields fv })
    (hns : hp.Ns1 dx m0) (hw : Within m0 nl) (hz : nl.length ≤ 1000) (ha : W.findIn K (.ref C) name = some none)
    (hq : ∀ h' tk', (∀ b o, b ≠ dx → hp.get? b = some o → h'.get? b = some o) → h'.Ns1 dx (fun y => if y = name then some v else m0 y) → R (.ok (.ret .none)) ⟨h', g, d, tk', os⟩) :
    codeAny (model prog w) A (.call (.builtin "object.__setattr__") ⟨[.ref x, .str name tk, v], []⟩) R ⟨hp, g, d, t, os⟩ := by
  obtain ⟨oD, esD, epD, hoD, hdD, _⟩ := hns.count hw
  refine osa_way O X (ox := { cls := .ref C, dict := some dx, data := .fields fv }) (od := some oD) ⟨hx, rfl, rfl, hoD⟩ ha ?_
  have hc : W.Looks (model prog w) hp (classData C) cd := W.looks_clsIn X O.cls
  have hh := O.dic
  obtain ⟨nm, bs, mro, ns, qn, hd, sn, sb, ab, col, del⟩ := cd
  dsimp only at hh
  subst hh
  unfold storeInOwnDict ownDictForStores
  repeat (first
    | with_reducible refine PySem.OEX.store_in_old hns hw hz ?_
    | with_reducible refine wpAny_loadPart_at hx ?_
    | with_reducible refine hc.at ?_
    | wp_step)
  exact fun h' tk' hn' hs => hq h' tk' (fun b o hb ho => (hs.2 b hb).trans ho) hn'
end
end DLX
end PySem

set_option Elab.async false
set_option linter.all false
set_option autoImplicit false
set_option maxRecDepth 100000
/-! DL, part z: an own exception is made by its class: its __init__ stores each parameter under its own name. -/
namespace PySem
namespace DLX
open PySem.W PySem.Calls PyProof.Rows PySem.HandSPX

abbrev Fld := Str × Pos × Pos × Pos × Pos
/-- self.f = f -/
def stOf (x : Fld) : Stmt := .Assign [.Attribute (.Name "self" x.2.1) x.1 x.2.2.1] (.Name x.1 x.2.2.2.1) x.2.2.2.2
def mOf (val : Str → Value) (ns : List Str) : Str → Option Value := fun y => if y ∈ ns then some (val y) else none
theorem mOf_cons (val : Str → Value) (f : Str) (ns : List Str) : (fun y => if y = f then some (val f) else mOf val ns y) = mOf val (f :: ns) := by
  funext y
  unfold mOf
  by_cases h : y = f
  · subst h
    simp
  · simp [h]
theorem mOf_within (val : Str → Value) (ns : List Str) : Within (mOf val ns) ns := fun y hy => by
  unfold mOf at hy
  split at hy
  · assumption
  · exact absurd rfl hy
/-- what the text says of the class at C -/
structure XCls (K : W.Frag) (C : Addr) : Prop where
  ov : ∃ bmB cd, Over K C bmB cd
  new : ∃ B newId initId bmB, ExcBaseFacts B newId initId bmB ∧ excInitIn K C bmB newId = true
  sa : findIn K (.ref C) "__setattr__" = some (some (.builtin "object.__setattr__"))
section
variable {prog : Program} {w : World} {A : Around} {E : Value → Shared → Prop} {R : Result → Shared → Prop} {K : Frag} {C x L : Addr} {env : Env} {m : Str → Option Value} {val : Str → Value} {fv : Array Value}
/-- the stores behind the first one -/
theorem run_rest (T : XCls K C) (hk : env.scope.kind = .function) (hL : env.locals = L) (hs : env.kindOf "self" = some .local) (ms : m "self" = some (.ref x)) (xL : x ≠ L) : ∀ (fl : List Fld) (s : Shared) (dx : Addr) (ns : List Str) (Q : Flow → Shared → Prop),
    (∀ y ∈ fl, env.kindOf y.1 = some .local ∧ m y.1 = some (val y.1) ∧ (y.1 == ("__debug__" : Str)) = false ∧ findIn K (.ref C) y.1 = some none) → K.In s.heap → s.heap.Ns L m → s.heap.get? x = some { cls := .ref C, dict := some dx, data := .fields fv } → dx ≠ x → dx ≠ L → s.heap.Ns1 dx (mOf val ns) → ns.length + fl.length ≤ 900 →
    (∀ a o, K.lookup a = some o → a ≠ dx) →
    (∀ h' tk, (∀ b o, b ≠ dx → s.heap.get? b = some o → h'.get? b = some o) → h'.Ns1 dx (mOf val ((fl.map (·.1)).reverse ++ ns)) → Q .next { s with heap := h', toks := tk }) →
    wpAny (model prog w) A (execs (fl.map stOf) env) Q E s
  | [], s, dx, ns, Q, _, _, _, _, _, _, hn, _, _, hq => wpAny_execs_nil (hq s.heap s.toks (fun _ _ _ e => e) hn)
  | y :: r, s, dx, ns, Q, hf, X, hN, hx, dnx, dnL, hn, hl, kd, hq => by
    obtain ⟨bmB, cd, O⟩ := T.ov
    obtain ⟨f1, f2, f3, f4⟩ := hf y List.mem_cons_self
    have hN' : s.heap.Ns env.locals m := by rw [hL]; exact hN
    refine wpAny_execs_cons (plainObj_wpAny_Assign_Attribute ?_)
    refine wpAny_Name (wpAny_loadName_local hk f1 hN' f2 (wpAny_Name (wpAny_loadName_local hk hs hN' ms ?_) (by decide))) f3
    obtain ⟨oD, _, _, hoD, _, _⟩ := hn.count (mOf_within val ns)
    refine set_plain X (ox := { cls := .ref C, dict := some dx, data := .fields fv }) (od := some oD) ⟨hx, rfl, rfl, hoD⟩ T.sa ?_
    obtain ⟨hp, g, d, t, os⟩ := s
    refine store_next O X hx hn (mOf_within val ns) (by omega) f4 fun h' tk' kk hn' => ?_
    rw [mOf_cons] at hn'
    have X' : K.In h' := fun a o e => kk a o (kd a o e) (X a o e)
    refine run_rest T hk hL hs ms xL r ⟨h', g, d, tk', os⟩ dx (y.1 :: ns) Q (fun z hz => hf z (List.mem_cons_of_mem _ hz)) X' (hN.at fun o e => kk L o (Ne.symm dnL) e) (kk x _ (Ne.symm dnx) hx) dnx dnL hn' (by rw [List.length_cons] at hl ⊢; omega) kd fun h2 tk2 k2 n2 => ?_
    refine hq h2 tk2 (fun b o hb e => k2 b o hb (kk b o hb e)) ?_
    rw [List.map_cons, List.reverse_cons, List.append_assoc]
    exact n2
/-- what __init__ leaves of a fresh exception at x -/
structure InitEnd (h h' : Heap) (x C dx t1 : Addr) (mm : Str → Option Value) : Prop where
  keep : ∀ b o, b ≠ x → h.get? b = some o → h'.get? b = some o
  obj : h'.get? x = some { cls := .ref C, dict := some dx, data := .fields #[.ref t1, .none, .none, .none, .bool false, .none] }
  dbig : h.objs.size ≤ dx
  dne : dx ≠ x
  ns : h'.Ns1 dx mm
theorem init_n {s : Shared} {fI t0 : Addr} {name qual : Str} {params : Arguments} {scope : Scope} {dV kV doc pm cdv ct oc : Value} {an od : Option Addr} {osl : Array (Option Value)} {y : Fld} {fl : List Fld} {args : Args} {binds : List (Str × Value)} (T : XCls K C)
    (lk : K.lookup fI = some ⟨oc, od, .func (fnOf name qual params ((y :: fl).map stOf) scope dV kV doc pm an cdv ct), osl⟩) (hcd : codeIn K cdv qual = true) (hk : scope.kind = .function) (hco : scope.isCoroutine = false) (hge : scope.isGenerator = false)
    (hb : BindsTo s (fnOf name qual params ((y :: fl).map stOf) scope dV kV doc pm an cdv ct) args binds) (hkd : (binds.all fun z => scope.names.lookup z.1 == some .local || scope.names.lookup z.1 == some .cell) = true)
    (hs : scope.names.lookup ("self" : Str) = some .local) (ms : bindL (fun z => scope.names.lookup z) binds (fun _ => none) "self" = some (.ref x))
    (hf : ∀ z ∈ y :: fl, scope.names.lookup z.1 = some .local ∧ bindL (fun z => scope.names.lookup z) binds (fun _ => none) z.1 = some (val z.1) ∧ (z.1 == ("__debug__" : Str)) = false ∧ findIn K (.ref C) z.1 = some none) (hl : fl.length ≤ 800)
    (X : K.In s.heap) (lim : s.heap.NoLimit) (hx : s.heap.get? x = some (excO C t0)) (hnx : K.lookup x = none) (hroom : A.depth < recursionLimit)
    (hq : ∀ h' tk dx, InitEnd s.heap h' x C dx t0 (mOf val ((fl.map (·.1)).reverse ++ [y.1])) → R (.ok (.ret .none)) { s with heap := h', toks := tk }) :
    codeAny (model prog w) A (.call (.ref fI) args) R s := by
  refine Att.call_fn X lim lk hcd hroom hb hkd (fun s1 IC => ?_) hco hge hk
  obtain ⟨h1, tk1, rfl⟩ := IC.toInCall.same
  have kp : ∀ b o, s.heap.get? b = some o → h1.get? b = some o := IC.toInCall.keep
  have hN := IC.toInCall.ns
  have X1 : K.In h1 := X.keeps kp
  have hx1 := kp _ _ hx
  have xL : x ≠ s.heap.objs.size := Nat.ne_of_lt (Heap.lt_size hx)
  obtain ⟨bmB, cd, O⟩ := T.ov
  obtain ⟨f1, f2, f3, f4⟩ := hf y List.mem_cons_self
  show wpAny _ _ (execs (stOf y :: fl.map stOf) _) _ _ _
  refine wpAny_execs_cons (plainObj_wpAny_Assign_Attribute ?_)
  refine wpAny_Name (wpAny_loadName_local hk f1 hN f2 (wpAny_Name (wpAny_loadName_local hk hs hN ms ?_) (by decide))) f3
  refine set_plain X1 (ox := excO C t0) (od := none) ⟨hx1, rfl, rfl, trivial⟩ T.sa ?_
  refine store_first O X1 hx1 f4 fun h3 tk3 dx k3 dn dne hx3 hn3 => ?_
  have e0 : (fun z => if z = y.1 then some (val y.1) else none) = mOf val [y.1] := by
    have := mOf_cons val y.1 []
    simpa [mOf] using this
  rw [e0] at hn3
  have zL : s.heap.objs.size < h1.objs.size := hN.lt
  have dL : dx ≠ s.heap.objs.size := Nat.ne_of_gt (Nat.lt_of_lt_of_le zL dn)
  have kx : ∀ a o, K.lookup a = some o → a ≠ x := fun a o e z => by
    rw [z, hnx] at e
    cases e
  have kdx : ∀ a o, K.lookup a = some o → a ≠ dx := fun a o e => Nat.ne_of_lt (Nat.lt_of_lt_of_le (Heap.lt_size (X1 a o e)) dn)
  have X3 : K.In h3 := fun a o e => k3 a o (kx a o e) (X1 a o e)
  refine run_rest (env := envOfC qual scope s.heap.objs.size fI cdv) T hk rfl hs ms xL fl _ dx [y.1] _ (fun z hz => hf z (List.mem_cons_of_mem _ hz)) X3 (hN.at fun o e => k3 _ o (Ne.symm xL) e) hx3 dne dL hn3 (by rw [List.length_singleton]; omega) kdx fun h4 tk4 k4 n4 => ?_
  refine hq h4 tk4 dx ⟨fun b o hb e => k4 b o (fun z => ?_) (k3 b o hb (kp b o e)), k4 x _ (Ne.symm dne) hx3, Nat.le_of_lt (Nat.lt_of_lt_of_le zL dn), dne, n4⟩
  exact absurd (Nat.lt_of_lt_of_le (Heap.lt_size (kp b o e)) dn) (by rw [z]; exact Nat.lt_irrefl _)
/-- an own exception, made: at e, its dict at d -/
structure OwnMade (h h' : Heap) (e C d : Addr) (mm : Str → Option Value) : Prop where
  keep : ∀ b o, h.get? b = some o → h'.get? b = some o
  new : h.objs.size ≤ e
  obj : ∃ t1 : Addr, h'.get? e = some { cls := .ref C, dict := some d, data := .fields #[.ref t1, .none, .none, .none, .bool false, .none] }
  dbig : h.objs.size ≤ d
  dne : d ≠ e
  ns : h'.Ns1 d mm
theorem made_n {s : Shared} {fI : Addr} {name qual : Str} {params : Arguments} {scope : Scope} {dV kV doc pm cdv ct oc : Value} {an od : Option Addr} {osl : Array (Option Value)} {y : Fld} {fl : List Fld} {rest : List Value} {kw : List (Str × Value)} {bvs : List (Str × Value)} (T : XCls K C)
    (iC : findIn K (.ref C) "__init__" = some (some (.ref fI))) (tI : typeIn K (.ref fI) = some (.type "function"))
    (lk : K.lookup fI = some ⟨oc, od, .func (fnOf name qual params ((y :: fl).map stOf) scope dV kV doc pm an cdv ct), osl⟩) (hcd : codeIn K cdv qual = true) (hk : scope.kind = .function) (hco : scope.isCoroutine = false) (hge : scope.isGenerator = false)
    (hb : ∀ (s' : Shared) (x : Addr), K.In s'.heap → BindsTo s' (fnOf name qual params ((y :: fl).map stOf) scope dV kV doc pm an cdv ct) ⟨.ref x :: rest, kw⟩ (("self", .ref x) :: bvs))
    (hkd : (bvs.all fun z => scope.names.lookup z.1 == some .local || scope.names.lookup z.1 == some .cell) = true)
    (hs : scope.names.lookup ("self" : Str) = some .local) (ms : ∀ x : Addr, bindL (fun z => scope.names.lookup z) (("self", .ref x) :: bvs) (fun _ => none) "self" = some (.ref x))
    (hf : ∀ z ∈ y :: fl, scope.names.lookup z.1 = some .local ∧ (∀ x : Addr, bindL (fun z => scope.names.lookup z) (("self", .ref x) :: bvs) (fun _ => none) z.1 = some (val z.1)) ∧ (z.1 == ("__debug__" : Str)) = false ∧ findIn K (.ref C) z.1 = some none) (hl : fl.length ≤ 800)
    (hr : rest.length ≤ sizeLine) (X : K.In s.heap) (lim : s.heap.NoLimit) (hroom : A.depth + 1 < recursionLimit)
    (hq : ∀ h' tk e d, OwnMade s.heap h' e C d (mOf val ((fl.map (·.1)).reverse ++ [y.1])) → R (.ok (.ret (.ref e))) { s with heap := h', toks := tk }) :
    codeAny (model prog w) A (.call (.ref C) ⟨rest, kw⟩) R s := by
  obtain ⟨B, newId, initId, bmB, F, hin⟩ := T.new
  obtain ⟨nm, N, qn, bs, bm, hdct, sn, sub, ab, col, dd, k0, k1, k2, k3, k5, hC, hT⟩ := excInit_of X hin
  obtain ⟨hp, g, dr, tk, os⟩ := s
  have kp : ∀ b o, hp.get? b = some o → (twoO hp C rest).get? b = some o := fun b o e => Heap.get?_push_of_some _ (Heap.get?_push_of_some _ e)
  have ge : (twoO hp C rest).get? (hp.objs.size + 1) = some (excO C hp.objs.size) := by heap_get
  have nx : K.lookup (hp.objs.size + 1) = none := by
    cases e : K.lookup (hp.objs.size + 1) with
    | none => rfl
    | some o => exact absurd (Nat.lt_of_succ_lt (Heap.lt_size (X _ _ e))) (Nat.lt_irrefl _)
  refine call_kw F hT hC (looks_findIn X iC) (fun self => bind_fn X self tI) hr ?_
  refine init_n (s := ⟨twoO hp C rest, g, dr, tk, os⟩) T lk hcd hk hco hge (hb _ _ (X.keeps kp)) (by rw [List.all_cons, hkd, hs]; rfl) hs (ms _) (fun z hz => ⟨(hf z hz).1, (hf z hz).2.1 _, (hf z hz).2.2⟩) hl (X.keeps kp) (lim.keeps kp) ge nx ?_ fun h' tk' dx ⟨k', hx, dn, dne, hns⟩ => ?_
  · show A.depth + 1 < recursionLimit
    exact hroom
  · have z : hp.objs.size + 1 + 1 ≤ dx := by
      have q : (twoO hp C rest).objs.size ≤ dx := dn
      rw [Heap.size_push, Heap.size_push] at q
      exact q
    exact ⟨rfl, hq h' tk' (hp.objs.size + 1) dx ⟨fun b o e => k' b o (Nat.ne_of_lt (Nat.lt_succ_of_lt (Heap.lt_size e))) (kp b o e), Nat.le_succ _, ⟨_, hx⟩, Nat.le_trans (Nat.le_trans (Nat.le_succ _) (Nat.le_succ _)) z, dne, hns⟩⟩
end
end DLX
end PySem

set_option Elab.async false
set_option linter.all false
set_option autoImplicit false
set_option maxRecDepth 100000
/-! DL, part w: own exceptions as data: made, their fields, isinstance. -/
namespace DL
open PySem L2

/-- what isinstance and a field's look ask of an own exception's class -/
structure XIs (K : PySem.W.Frag) (C : Addr) : Prop where
  cl : (PySem.W.clsIn K C).isSome = true
  ga : PySem.W.findIn K (.ref C) "__getattribute__" = some (some (.builtin "BaseException.__getattribute__"))
  gt : PySem.W.findIn K (.ref C) "__getattr__" = some none
  ex : PySem.W.subIn K (.ref C) (.type "BaseException") = some true
  hd : PySem.W.hasDictIn K C = true
  ha : PySem.W.findIn K (.ref C) "__class__" = some (some (.builtin "object.__class__"))
  hn : PySem.W.specialIn K (.builtin "object.__class__") "__get__" = some (some (.builtin "getset_descriptor.__get__"))
  tk : PySem.W.takesIn K (.builtin "object.__class__") = some true
  hm : PySem.W.mroIn K C (.type "object") = some true
def xisB (K : PySem.W.Frag) (C : Addr) : Bool :=
  (PySem.W.clsIn K C).isSome && decide (PySem.W.findIn K (.ref C) "__getattribute__" = some (some (.builtin "BaseException.__getattribute__"))) && decide (PySem.W.findIn K (.ref C) "__getattr__" = some none) && decide (PySem.W.subIn K (.ref C) (.type "BaseException") = some true)
    && PySem.W.hasDictIn K C && decide (PySem.W.findIn K (.ref C) "__class__" = some (some (.builtin "object.__class__"))) && decide (PySem.W.specialIn K (.builtin "object.__class__") "__get__" = some (some (.builtin "getset_descriptor.__get__")))
    && decide (PySem.W.takesIn K (.builtin "object.__class__") = some true) && decide (PySem.W.mroIn K C (.type "object") = some true)
theorem xis_of {K : PySem.W.Frag} {C : Addr} (h : xisB K C = true) : XIs K C := by
  simp only [xisB, Bool.and_eq_true, decide_eq_true_eq] at h
  obtain ⟨⟨⟨⟨⟨⟨⟨⟨h1, h2⟩, h3⟩, h4⟩, h5⟩, h6⟩, h7⟩, h8⟩, h9⟩ := h
  exact ⟨h1, h2, h3, h4, h5, h6, h7, h8, h9⟩

section
variable {X : Cx} {c : Nat → Addr} {W : WX} {pins : List (Addr × Obj)} {σ : St} {H : Hp} {s : Shared}
/-- the object of an exception that is data -/
theorem exc_at {a C : Addr} {d : Option Addr} (I : Inv X pins σ H s) (h : H a = some (exo a C d)) : ∃ ox : Obj, s.heap.get? a = some ox ∧ ox.cls = .ref C ∧ ox.dict = d ∧ PySem.W.notCls ox = true := by
  obtain ⟨t1, e⟩ := exo_at I.hok h
  exact ⟨_, e, rfl, rfl, rfl⟩
/-! ### a field -/
/-- which classes know nothing of the name f -/
def NoF (K : PySem.W.Frag) (cl : Nat → Addr) (cs : List Nat) (f : Str) : Prop := ∀ k ∈ cs, XIs K (cl k) ∧ PySem.W.findIn K (.ref (cl k)) f = some none
def xfC (cs : List Nat) (f : Str) : D → Option D
  | .exc k fs => if k ∈ cs then fs.lookup f else none
  | _ => none
theorem de_xf {e : Expr} {pos : Pos} {f : Str} {δ : DenE} {cs : List Nat} (N : NoF X.K c cs f) (hb : attributeBase e f X.env (eval e X.env) = eval e X.env) (h : PE X e (rdE (tb X c) W δ)) : PE X (.Attribute e f pos) (rdE (tb X c) W (dUn (xfC cs f) δ)) := by
  refine ⟨fun pins s σ H Q I hq => ?_⟩
  obtain ⟨Z, ρ, μ, g, sl, h1⟩ := rd_then (R := Rep (tb X c)) (f := fun _ x μ1 => ofO (xfC cs f x) μ1) hq
  refine attr_of hb (thn (h.run pins s σ H _ I ⟨Z, ρ, μ, g, sl, h1⟩) fun u s1 ⟨x, H1, I1, rx, Z1, ρ1, dx, μ1, g1, s1', r1, q1⟩ => ?_)
  cases r1 with
  | @exc a dd k fs ds ha hd r =>
    simp only [xfC] at q1
    by_cases hk : k ∈ cs
    · rw [if_pos hk] at q1
      obtain ⟨T, hno⟩ := N k hk
      cases el : ds.lookup f with
      | none =>
        rw [el] at q1
        exact False.elim q1
      | some d =>
        rw [el] at q1
        obtain ⟨v, hv, rv⟩ := r.look el
        obtain rfl : u = Value.ref a := rx
        have hH := g1.sub _ _ ha
        have hD := g1.sub _ _ hd
        obtain ⟨ox, o1, o2, o3, o4⟩ := exc_at I1 hH
        obtain ⟨mA, hns, rel⟩ := exd_at I1.hok hD
        obtain ⟨od, e1, e2⟩ := lookIn_ns hns
        obtain ⟨u, hu, ru⟩ := RelO.some_of (v := v) (o := mA f) (by rw [← hv]; exact rel f)
        have J : PySem.W.InstAt s1.heap a ox (c k) (some od) := ⟨o1, o2, o4, by rw [o3]; exact e1⟩
        refine HandSPX.exc_get I1.kIn J T.ga T.gt T.ex (PySem.W.findObj_own T.hd hno rfl (by rw [e2, hu])) (handed_of ru) ?_
        exact ⟨v, H1, I1.tok _, ru, q1 Z1 H1 v Step.rfl g1 rv⟩
    · rw [if_neg hk] at q1
      exact False.elim q1
  | @exc0 a k ha =>
    simp only [xfC] at q1
    split at q1 <;> exact False.elim q1
  | _ => exact False.elim q1

/-! ### isinstance -/
structure ClsTab where
  own : Nat → Nat → Option Bool
  bas : Nat → String → Option Bool
def tyName (μ : Store) : D → Option String
  | .non => some "NoneType"
  | .bl _ => some "bool"
  | .int _ => some "int"
  | .str _ => some "str"
  | .lst _ => some "list"
  | .tup _ => some "tuple"
  | .dic _ => some "dict"
  | .loc n => match μ[n]? with
    | some (some (.lst _)) => some "list"
    | some (some (.dic _)) => some "dict"
    | _ => none
  | _ => none
end
def isXB (τ : ClsTab) : OpN := fun ds μ => (match ds with
  | [.exc k _, .cls k'] => τ.own k k'
  | [.exc k _, .ty n] => τ.bas k n
  | _ => none : Option Bool).map .bl
/-- the table says what the text says, for the exceptions' classes cs -/
structure TabX (K : PySem.W.Frag) (cl : Nat → Addr) (τ : ClsTab) : Prop where
  own : ∀ k k' b, τ.own k k' = some b → XIs K (cl k) ∧ PySem.W.kitOne K (.ref (cl k)) (.ref (cl k')) = some b
  bas : ∀ k n b, τ.bas k n = some b → XIs K (cl k) ∧ PySem.W.kitOne K (.ref (cl k)) (.type n) = some b
section
variable {X : Cx} {c : Nat → Addr}
theorem c_isX {τ : ClsTab} (O : TabX X.K c τ) : CallR X (.builtin "isinstance") (rdC (tb X c) (isXB τ)) := by
  intro pins s σ H vs us Q I r h
  obtain ⟨Z, μ, ds, d, g, rd, e, q⟩ := h
  have core : ∀ {a : Addr} {k : Nat} {dd : Option Addr} {cv : Value} {b : Bool}, H a = some (exo a (c k) dd) → (∀ dx, dd = some dx → ∃ fs, H dx = some (exd dx fs)) → XIs X.K (c k) → PySem.W.kitOne X.K (.ref (c k)) cv = some b → (∀ tk, EP X pins σ Q (.bool b) { s with toks := tk }) →
      wpAny (model X.prog X.w) X.A (call (.builtin "isinstance") [.ref a, cv]) (EP X pins σ Q) X.xe s := by
    intro a k dd cv b hH hdd T hk hq
    obtain ⟨ox, o1, o2, o3, o4⟩ := exc_at I hH
    cases dd with
    | none =>
      have J : PySem.W.InstAt s.heap a ox (c k) none := ⟨o1, o2, o4, by rw [o3]; exact trivial⟩
      exact PySem.W.kia_one (PySem.W.kitx_exc T.cl T.ga T.gt T.ex T.ha T.hn T.tk T.hm) I.kIn J hk (fun z => nomatch z) hq
    | some dx =>
      obtain ⟨fs, hD⟩ := hdd dx rfl
      obtain ⟨mA, hns, rel⟩ := exd_at I.hok hD
      obtain ⟨od, e1, e2⟩ := lookIn_ns hns
      have J : PySem.W.InstAt s.heap a ox (c k) (some od) := ⟨o1, o2, o4, by rw [o3]; exact e1⟩
      exact PySem.W.kia_one (PySem.W.kitx_exc T.cl T.ga T.gt T.ex T.ha T.hn T.tk T.hm) I.kIn J hk (fun z => nomatch z) hq
  have both : ∀ {k : Nat} {fs : List (Str × D)} {v : V} {u cv : Value} {b : Bool}, Rep (tb X c) Z (.exc k fs) v → RelV v u → XIs X.K (c k) → PySem.W.kitOne X.K (.ref (c k)) cv = some b → Rep (tb X c) Z d (.bl b) →
      wpAny (model X.prog X.w) X.A (call (.builtin "isinstance") [u, cv]) (EP X pins σ Q) X.xe s := by
    intro k fs v u cv b r1 ru T hk rb
    have fin : ∀ tk, EP X pins σ Q (.bool b) { s with toks := tk } := fun tk => ⟨.bl b, H, I.tok tk, rfl, q Z H _ Step.rfl g rb⟩
    cases r1 with
    | @exc a dx k fs ds ha hd r =>
      obtain rfl : u = Value.ref a := ru
      exact core (g.sub _ _ ha) (fun dx' e' => by cases e'; exact ⟨_, g.sub _ _ hd⟩) T hk fin
    | @exc0 a k ha =>
      obtain rfl : u = Value.ref a := ru
      exact core (g.sub _ _ ha) (fun dx' e' => by cases e') T hk fin
  simp only [isXB] at e
  split at e
  · rename_i k fs k'
    cases hb : τ.own k k' with
    | none => rw [hb] at e; cases e
    | some b =>
      rw [hb] at e
      cases e
      obtain ⟨T, hk⟩ := O.own k k' b hb
      cases rd with
      | cons r1 rd =>
        cases rd with
        | cons r2 rd =>
          cases rd
          cases r2
          cases r with
          | cons u1 r =>
            cases r with
            | cons u2 r =>
              cases r
              cases u2
              exact both r1 u1 T hk (.bl b)
  · rename_i k fs n
    cases hb : τ.bas k n with
    | none => rw [hb] at e; cases e
    | some b =>
      rw [hb] at e
      cases e
      obtain ⟨T, hk⟩ := O.bas k n b hb
      cases rd with
      | cons r1 rd =>
        cases rd with
        | cons r2 rd =>
          cases rd
          cases r2
          cases r with
          | cons u1 r =>
            cases r with
            | cons u2 r =>
              cases r
              cases u2
              exact both r1 u1 T hk (.bl b)
  · cases e
end

/-! ### made -/
/-- the class at cl k, its __init__ and what it makes of its arguments: np by place, then those of the names ks; ps: the fields, in the sequence of the parameters -/
structure XMk (K : PySem.W.Frag) (cl : Nat → Addr) (k : Nat) (ps ks : List Str) (np : Nat) (g : List D → List D → List D) : Prop where
  kp : PySem.W.keepIn K (.ref (cl k)) = true
  run : ∀ {prog : Program} {w : World} {A : Around} {R : Result → Shared → Prop} {s : Shared} (us ws : List Value), K.In s.heap → s.heap.NoLimit → A.depth + 1 < recursionLimit → us.length = np → ws.length = ks.length →
    (∀ h' tk e d bs, bs.length = ps.length → (∀ vs zs, Vals vs us → Vals zs ws → ∃ bv, Vals bv bs ∧ ∀ T Z ds es, Reps T Z ds vs → Reps T Z es zs → Reps T Z (g ds es) bv) →
      PySem.DLX.OwnMade s.heap h' e (cl k) d (fun y => (ps.zip bs).reverse.lookup y) → R (.ok (.ret (.ref e))) { s with heap := h', toks := tk }) →
    codeAny (model prog w) A (.call (.ref (cl k)) ⟨us, ks.zip ws⟩) R s
def dExc (k np nk : Nat) (ps : List Str) (g : List D → List D → List D) (δs δk : DenA) : DenE := fun ρ μ => (δs ρ μ).bind fun ds μ1 => (δk ρ μ1).bind fun zs μ2 => if ds.length = np ∧ zs.length = nk then .ok (.exc k (ps.zip (g ds zs)).reverse) μ2 else .bad
theorem repF_zip {T : Tab} {Z : Wd} : ∀ {ps : List Str} {ds : List D} {vs : List V}, Reps T Z ds vs → RepF T Z (ps.zip ds) (ps.zip vs)
  | [], _, _, _ => .nil
  | _ :: _, _, _, .nil => .nil
  | p :: ps, _, _, .cons h r => .cons h (repF_zip r)
theorem RepF.append {T : Tab} {Z : Wd} : ∀ {a b : List (Str × D)} {v w : List (Str × V)}, RepF T Z a v → RepF T Z b w → RepF T Z (a ++ b) (v ++ w)
  | _, _, _, _, .nil, h => h
  | _, _, _, _, .cons h r, q => .cons h (RepF.append r q)
theorem RepF.reverse {T : Tab} {Z : Wd} : ∀ {a : List (Str × D)} {v : List (Str × V)}, RepF T Z a v → RepF T Z a.reverse v.reverse
  | _, _, .nil => .nil
  | _, _, .cons h r => by
    rw [List.reverse_cons, List.reverse_cons]
    exact RepF.append (RepF.reverse r) (.cons h .nil)
theorem relO_zip (f : Str) : ∀ {ps : List Str} {vs : List V} {us : List Value}, Vals vs us → RelO ((ps.zip vs).lookup f) ((ps.zip us).lookup f)
  | [], _, _, _ => trivial
  | _ :: _, _, _, .nil => trivial
  | p :: ps, _, _, .cons h r => by
    rw [List.zip_cons_cons, List.zip_cons_cons, List.lookup_cons, List.lookup_cons]
    cases f == p with
    | true => exact h
    | false => exact relO_zip f r
theorem zip_app {α β : Type} : ∀ {a : List α} {b : List β} {x : α} {y : β}, a.length = b.length → (a ++ [x]).zip (b ++ [y]) = a.zip b ++ [(x, y)]
  | [], [], _, _, _ => rfl
  | [], _ :: _, _, _, h => by simp at h
  | _ :: _, [], _, _, h => by simp at h
  | a :: as, b :: bs, x, y, h => by
    rw [List.cons_append, List.cons_append, List.zip_cons_cons, List.zip_cons_cons, zip_app (by simpa using h)]
    rfl
theorem zip_rev {α β : Type} : ∀ {a : List α} {b : List β}, a.length = b.length → (a.zip b).reverse = a.reverse.zip b.reverse
  | [], [], _ => rfl
  | [], _ :: _, h => by simp at h
  | _ :: _, [], h => by simp at h
  | a :: as, b :: bs, h => by
    have h' : as.length = bs.length := by simpa using h
    rw [List.zip_cons_cons, List.reverse_cons, List.reverse_cons, List.reverse_cons, zip_rev h', zip_app (by simp [h'])]
theorem vals_rev : ∀ {vs : List V} {us : List Value}, Vals vs us → Vals vs.reverse us.reverse
  | _, _, .nil => .nil
  | _, _, .cons h r => by
    rw [List.reverse_cons, List.reverse_cons]
    exact Vals.append (vals_rev r) (.cons h .nil)
section
variable {X : Cx} {c : Nat → Addr} {W : WX} {pos p : Pos} {x : Str} {es : List Expr} {kws : List Keyword} {δs δk : DenA} {k np j : Nat} {ps : List Str} {g : List D → List D → List D}
theorem de_exc (M : XMk X.K c k ps (kwNames kws) np g) (hr : Room j X.A) (hg : Gl X x) (hm : X.mg x = some (.ref (c k))) (hdb : (x == ("__debug__" : Str)) = false) (hnil : es = [] → δs = dNil) (hst : es.all notStar = true) (hkn : kws.all (·.arg.isSome) = true)
    (ha : PA X es (rdA (tb X c) W δs)) (hkw : PK X kws (rdA (tb X c) W δk)) : PE X (.Call (.Name x p) es kws pos) (rdE (tb X c) W (dExc k np (kwNames kws).length ps g δs δk)) := by
  refine ⟨fun pins s σ H Q I h => ?_⟩
  refine wpAny_Call_Name_kw (ld_glob I hg hm ?_ hdb)
  refine args_run M.kp hnil hst hkn ha hkw I (f := fun ds zs μ2 => if ds.length = np ∧ zs.length = (kwNames kws).length then Res.ok (D.exc k (ps.zip (g ds zs)).reverse) μ2 else .bad) h fun us ws s1 vs zs H1 Z ρ μ ds es' I1 r1 rz gd sl rd rk q => ?_
  by_cases hl : ds.length = np ∧ es'.length = (kwNames kws).length
  · rw [if_pos hl] at q
    have lim := I1.nolimit
    refine wpAny_call (M.run us ws I1.kIn lim (by have := hr.dp; omega) (by rw [← r1.length, ← rd.length]; exact hl.1) (by rw [← rz.length, ← rk.length]; exact hl.2) fun h' tk e d bs hbl hbs OM => ?_)
    obtain ⟨bv, b1, b2⟩ := hbs vs zs r1 rz
    have rg := b2 (tb X c) Z ds es' rd rk
    obtain ⟨hp, gs, dr, tk0, os⟩ := s1
    obtain ⟨t1, hoe⟩ := OM.obj
    -- the heap without the exception itself
    obtain ⟨G', g1, g2⟩ := restrict h' fun b => decide (b ≠ e)
    have gk : ∀ b, b ≠ e → G'.get? b = h'.get? b := fun b hb => g1 b (decide_eq_true hb)
    have ge : G'.get? e = none := g2 e (by simp)
    have old : ∀ b o, hp.get? b = some o → G'.get? b = some o := fun b o z => (gk b (Nat.ne_of_lt (Nat.lt_of_lt_of_le (Heap.lt_size z) OM.new))).trans (OM.keep b o z)
    have nd : H1 d = none := I1.hok.fresh OM.dbig
    have ne : H1 e = none := I1.hok.fresh OM.new
    have hrel : ∀ y, RelO ((ps.zip bv).reverse.lookup y) ((ps.zip bs).reverse.lookup y) := fun y => by
      rw [zip_rev (by rw [b1.length, hbl]), zip_rev hbl.symm]
      exact relO_zip y (vals_rev b1)
    have J1 : Inv X pins σ (upd H1 d (exd d (ps.zip bv).reverse)) ⟨G', gs, dr, tk, os⟩ := I1.laid (t' := tk) old OM.dbig (exd_ok (OM.ns.at fun o z => (gk d OM.dne).trans z) hrel)
    have ne' : upd H1 d (exd d (ps.zip bv).reverse) e = none := by
      rw [upd_ne (Ne.symm OM.dne)]
      exact ne
    have J2 : Inv X pins σ (upd (upd H1 d (exd d (ps.zip bv).reverse)) e (exo e (c k) (some d))) ⟨h', gs, dr, tk, os⟩ := Inv.laidN (t' := tk) J1 (fun b o z => by
      by_cases hb : b = e
      · have z' : G'.get? b = some o := z
        rw [hb, ge] at z'
        cases z'
      · exact (gk b hb).symm.trans z) ge ne' (exo_ok hoe)
    have gd1 := gd.add (exd d (ps.zip bv).reverse) nd
    have gd2 := gd1.add (exo e (c k) (some d)) ne'
    have st1 : Step Z H1 (Z.add d (exd d (ps.zip bv).reverse)) (upd H1 d (exd d (ps.zip bv).reverse)) := Step.add gd nd
    have st2 := st1.trans (Step.add (o := exo e (c k) (some d)) gd1 ne')
    refine ⟨.ref e, _, J2, rfl, q _ _ _ st2 gd2 (.exc upd_same ?_ ((repF_zip rg).reverse.mono st2.le))⟩
    show upd (upd Z.g d _) e _ d = _
    rw [upd_ne OM.dne, upd_same]
  · rw [if_neg hl] at q
    exact False.elim q
end
end DL

set_option Elab.async false
set_option linter.all false
set_option autoImplicit false
set_option maxRecDepth 100000
/-! DL, part v: classes of exceptions, from the text; errors without fields; repr; enumerate; further calls. -/
namespace DL
open PySem L2 PySem.DLX

theorem lookup_zip {β : Type} : ∀ (l : List Str) (b : List β), b.length = l.length → ∀ f ∈ l, ∃ v, (l.zip b).lookup f = some v
  | [], _, _, f, hf => by cases hf
  | p :: l, [], hb, f, hf => by simp at hb
  | p :: l, v :: b, hb, f, hf => by
    rw [List.zip_cons_cons, List.lookup_cons]
    cases e : f == p with
    | true => exact ⟨v, rfl⟩
    | false =>
      rcases List.mem_cons.mp hf with q | q
      · rw [q] at e
        simp at e
      · exact lookup_zip l b (by simpa using hb) f q
theorem lookup_out {β : Type} (f : Str) : ∀ (l : List Str) (b : List β), f ∉ l → (l.zip b).lookup f = none
  | [], _, _ => rfl
  | _ :: _, [], _ => rfl
  | p :: l, v :: b, h => by
    have e : (f == p) = false := by
      rw [beq_eq_false_iff_ne]
      exact fun z => h (by rw [z]; exact List.mem_cons_self)
    rw [List.zip_cons_cons, List.lookup_cons, e]
    exact lookup_out f l b fun z => h (List.mem_cons_of_mem _ z)
theorem lookup_rev {β : Type} (f : Str) : ∀ (l : List Str) (b : List β), l.Nodup → b.length = l.length → (l.zip b).reverse.lookup f = (l.zip b).lookup f
  | [], _, _, _ => rfl
  | _ :: _, [], _, hb => by simp at hb
  | p :: l, v :: b, hn, hb => by
    have hb' : b.length = l.length := by simpa using hb
    have hn' := List.nodup_cons.mp hn
    have e0 : List.lookup f [(p, v)] = if (f == p) = true then some v else none := by
      rw [List.lookup_cons]
      cases f == p <;> rfl
    have e1 : List.lookup f ((p, v) :: l.zip b) = if (f == p) = true then some v else (l.zip b).lookup f := by
      rw [List.lookup_cons]
      cases f == p <;> rfl
    rw [List.zip_cons_cons, List.reverse_cons, List.lookup_append, lookup_rev f l b hn'.2 hb', e0, e1]
    cases e : f == p with
    | true =>
      have ef : f = p := by simpa using e
      rw [lookup_out f l b (by rw [ef]; exact hn'.1)]
      rfl
    | false =>
      cases (l.zip b).lookup f <;> rfl
/-- XMk of a class whose __init__ stores its parameters ps -/
theorem xmk {K : PySem.W.Frag} {cl : Nat → Addr} {k np : Nat} {ps ks : List Str} {g : List D → List D → List D} {gv : List Value → List Value → List Value} {gV : List V → List V → List V} {fI : Addr} {name qual : Str} {params : Arguments} {scope : Scope} {dV kV doc pm cdv ct oc : Value} {an od : Option Addr}
    {osl : Array (Option Value)} {y : Fld} {fl : List Fld} (T : XCls K (cl k)) (kp : PySem.W.keepIn K (.ref (cl k)) = true) (iC : PySem.W.findIn K (.ref (cl k)) "__init__" = some (some (.ref fI))) (tI : PySem.W.typeIn K (.ref fI) = some (.type "function"))
    (lk : K.lookup fI = some ⟨oc, od, .func (PySem.W.fnOf name qual params ((y :: fl).map stOf) scope dV kV doc pm an cdv ct), osl⟩) (hcd : PySem.W.codeIn K cdv qual = true) (hk : scope.kind = .function) (hco : scope.isCoroutine = false) (hge : scope.isGenerator = false)
    (hps : ps = (y :: fl).map (·.1)) (nd : ps.Nodup) (hl : fl.length ≤ 800) (hnp : np ≤ 1000)
    (hb : ∀ (s : Shared) (x : Addr) (us ws : List Value), us.length = np → ws.length = ks.length → BindsTo s (PySem.W.fnOf name qual params ((y :: fl).map stOf) scope dV kV doc pm an cdv ct) ⟨.ref x :: us, ks.zip ws⟩ (("self", .ref x) :: ps.zip (gv us ws)) ∧ (gv us ws).length = ps.length)
    (hloc : (ps.all fun z => scope.names.lookup z == some .local) = true) (hs : scope.names.lookup ("self" : Str) = some .local)
    (hbl : ∀ (x : Addr) (bs : List Value), bs.length = ps.length → bindL (fun z => scope.names.lookup z) (("self", .ref x) :: ps.zip bs) (fun _ => none) "self" = some (.ref x) ∧ ∀ f ∈ ps, bindL (fun z => scope.names.lookup z) (("self", .ref x) :: ps.zip bs) (fun _ => none) f = (ps.zip bs).lookup f)
    (hdb : (ps.all fun z => z != ("__debug__" : Str)) = true) (hno : ∀ f ∈ ps, PySem.W.findIn K (.ref (cl k)) f = some none)
    (hV : ∀ vs zs us ws, Vals vs us → Vals zs ws → us.length = np → ws.length = ks.length → Vals (gV vs zs) (gv us ws)) (hD : ∀ T Z ds es vs zs, Reps T Z ds vs → Reps T Z es zs → vs.length = np → zs.length = ks.length → Reps T Z (g ds es) (gV vs zs)) :
    XMk K cl k ps ks np g := by
  refine ⟨kp, fun {prog w A R s} us ws X lim hroom h1 h2 hq => ?_⟩
  obtain ⟨hbb, hgl⟩ := hb s 0 us ws h1 h2
  have look : ∀ f ∈ ps, ∃ v, (ps.zip (gv us ws)).lookup f = some v := by
    exact fun f hf => lookup_zip ps _ hgl f hf
  have e1 : (fl.map (·.1)).reverse ++ [y.1] = ps.reverse := by rw [hps, List.map_cons, List.reverse_cons]
  have e2 : mOf (fun f => ((ps.zip (gv us ws)).lookup f).getD .none) ps.reverse = fun f => (ps.zip (gv us ws)).reverse.lookup f := by
    funext f
    rw [lookup_rev f ps _ nd hgl]
    unfold mOf
    by_cases hf : f ∈ ps
    · rw [if_pos (List.mem_reverse.mpr hf)]
      obtain ⟨v, hv⟩ := look f hf
      dsimp only
      rw [hv]
      rfl
    · rw [if_neg (fun z => hf (List.mem_reverse.mp z))]
      exact (lookup_out f ps _ hf).symm
  refine made_n (val := fun f => ((ps.zip (gv us ws)).lookup f).getD .none) (bvs := ps.zip (gv us ws)) T iC tI lk hcd hk hco hge (fun s' x _ => (hb s' x us ws h1 h2).1) ?_ hs (fun x => (hbl x _ hgl).1) ?_ hl ?_ X lim hroom fun h' tk e d OM => ?_
  · rw [List.all_eq_true]
    intro z hz
    have hm : z.1 ∈ ps := (List.of_mem_zip (a := z.1) (b := z.2) hz).1
    rw [List.all_eq_true] at hloc
    rw [hloc _ hm]
    rfl
  · intro z hz
    have hm : z.1 ∈ ps := by rw [hps]; exact List.mem_map_of_mem hz
    rw [List.all_eq_true] at hloc hdb
    refine ⟨by simpa using hloc _ hm, fun x => ?_, by simpa using hdb _ hm, hno _ hm⟩
    rw [(hbl x _ hgl).2 _ hm]
    obtain ⟨v, hv⟩ := look _ hm
    rw [hv]
    rfl
  · rw [h1, sizeLine_eq]
    omega
  · refine hq h' tk e d (gv us ws) hgl (fun vs zs r1 r2 => ⟨gV vs zs, hV vs zs us ws r1 r2 h1 h2, fun T Z ds es q1 q2 => hD T Z ds es vs zs q1 q2 (by rw [r1.length]; exact h1) (by rw [r2.length]; exact h2)⟩) ?_
    rw [e1, e2] at OM
    exact OM

/-- an error without arguments, of a class without __init__ -/
structure XMk0 (K : PySem.W.Frag) (C : Addr) : Prop where
  kp : PySem.W.keepIn K (.ref C) = true
  new : ∃ B newId initId bmB, ExcBaseFacts B newId initId bmB ∧ PySem.W.excInitIn K C bmB newId = true ∧ PySem.W.findIn K (.ref C) "__init__" = some (some (.builtin initId))
def dExc0 (k : Nat) : DenE := fun _ μ => .ok (.exc k []) μ
section
variable {X : Cx} {c : Nat → Addr} {W : WX} {pos p : Pos} {x : Str} {k : Nat}
theorem de_exc0 (M : XMk0 X.K (c k)) (hg : Gl X x) (hm : X.mg x = some (.ref (c k))) (hdb : (x == ("__debug__" : Str)) = false) : PE X (.Call (.Name x p) [] [] pos) (rdE (tb X c) W (dExc0 k)) := by
  refine ⟨fun pins s σ H Q I ⟨Z, ρ, μ, gd, sl, q⟩ => ?_⟩
  refine wpAny_Call_Name_kw (ld_glob I hg hm (PySem.W.callWith_K0 I.kIn M.kp ?_) hdb)
  obtain ⟨B, newId, initId, bmB, F, hin, hi⟩ := M.new
  obtain ⟨nm, N, qn, bs, bm, hdct, sn, sub, ab, col, dd, k0, k1, k2, k3, k5, hC, hT⟩ := PySem.W.excInit_of I.kIn hin
  obtain ⟨hp, gs, dr, tk, os⟩ := s
  refine PySem.W.call_B F hT hC (PySem.W.looks_findIn I.kIn hi) (by rw [sizeLine_eq]; decide) fun h' kk he ht => ?_
  have na : H (hp.objs.size + 1) = none := I.hok.fresh (Nat.le_succ _)
  have J : Inv X pins σ (upd H (hp.objs.size + 1) (exo (hp.objs.size + 1) (c k) none)) ⟨h', gs, dr, tk, os⟩ := I.laid (t' := tk) kk (Nat.le_succ _) (exo_ok he)
  exact ⟨.ref (hp.objs.size + 1), _, J, rfl, q _ _ _ (Step.add gd na) (gd.add _ na) (.exc0 upd_same)⟩
end
end DL

set_option Elab.async false
set_option linter.all false
set_option autoImplicit false
set_option maxRecDepth 100000
/-! DL, part u: repr of data, enumerate, displays of dicts, list(range(..)). -/
namespace DL
open PySem L2

def keyPy : Key → PyData
  | .inl i => .int i
  | .inr x => .str x
mutual
def toPyR : D → Option PyData
  | .non => some .none
  | .bl b => some (.bool b)
  | .int i => some (.int i)
  | .str x => some (.str x)
  | .lst xs => (toPyRs xs).map .list
  | .tup xs => (toPyRs xs).map .tuple
  | .dic kvs => (toPyRk kvs).map .dict
  | _ => none
def toPyRs : List D → Option (List PyData)
  | [] => some []
  | x :: xs => match toPyR x, toPyRs xs with
    | some p, some ps => some (p :: ps)
    | _, _ => none
def toPyRk : List (Key × D) → Option (List (PyData × PyData))
  | [] => some []
  | (k, x) :: xs => match toPyR x, toPyRk xs with
    | some p, some ps => some ((keyPy k, p) :: ps)
    | _, _ => none
end
section
variable {X : Cx} {c : Nat → Addr} {pins : List (Addr × Obj)} {σ : St} {H : Hp} {s : Shared} {Z : Wd}
theorem rd_seq_ne {K : PySem.W.Frag} {a : Addr} {vs : List V} (h : SqT K H a vs) : (H a ≠ none) ∨ ∃ o, K.lookup a = some o := by
  rcases h with (h | ⟨o, h⟩) | ⟨o, _, _, h, _⟩
  · exact .inl (by rw [h]; simp)
  · exact .inl (by rw [h]; simp)
  · exact .inr ⟨o, h⟩
theorem keys_read {P : Program} {w : World} {h : Heap} : ∀ {es : List DictEntry} {kvs : List (Key × Value)}, Pairs (mixKind P w) es kvs → ReadsAll h (es.map (·.key)) (kvs.map fun kv => keyPy kv.1) []
  | _, _, .nil => .nil
  | _, _, .cons (e := e) (kv := kv) h1 _ r => by
    refine ReadsAll.cons (as := []) (bs := []) ?_ (keys_read r)
    rcases keyIs_shape h1 with ⟨i, t, e1, e2⟩ | ⟨x, t, e1, e2⟩
    · show Reads h e.key (keyPy kv.1) []
      rw [e1, e2]
      exact .int i t
    · show Reads h e.key (keyPy kv.1) []
      rw [e1, e2]
      exact .str x t
theorem pairs_vals {P : Program} {w : World} : ∀ {es : List DictEntry} {kvs : List (Key × Value)}, Pairs (mixKind P w) es kvs → es.map (·.val) = kvs.map (·.2)
  | _, _, .nil => rfl
  | _, _, .cons _ h2 r => by rw [List.map_cons, List.map_cons, h2, pairs_vals r]
theorem toPyRk_keys : ∀ {kds : List (Key × D)} {ps : List (PyData × PyData)}, toPyRk kds = some ps → ps.map (·.1) = kds.map fun kd => keyPy kd.1
  | [], _, e => by cases e; rfl
  | (k, x) :: r, ps, e => by
    simp only [toPyRk] at e
    split at e
    · rename_i p ps' e1 e2
      cases e
      rw [List.map_cons, List.map_cons, toPyRk_keys e2]
    · cases e
theorem repk_keys {T : Tab} : ∀ {kds : List (Key × D)} {kvs : List (Key × V)}, RepK T Z kds kvs → kds.map (·.1) = kvs.map (·.1)
  | _, _, .nil => rfl
  | _, _, .cons _ r => by rw [List.map_cons, List.map_cons, repk_keys r]
theorem kv_keys : ∀ {kvs : List (Key × V)} {vs : List (Key × Value)}, KV kvs vs → kvs.map (·.1) = vs.map (·.1)
  | _, _, .nil => rfl
  | _, _, .cons h r => by rw [List.map_cons, List.map_cons, h.1, kv_keys r]
theorem kv_vals : ∀ {kvs : List (Key × V)} {vs : List (Key × Value)}, KV kvs vs → Vals (kvs.map (·.2)) (vs.map (·.2))
  | _, _, .nil => .nil
  | _, _, .cons h r => .cons h.2 (kv_vals r)
mutual
/-- data that lies in the heap is read there, at addresses that are tracked or written -/
theorem Rep.reads (I : Inv X pins σ H s) (g : Same Z.g H) : ∀ {d : D} {v : V} {u : Value} {p : PyData}, Rep (tb X c) Z d v → RelV v u → toPyR d = some p → ∃ as, Reads s.heap u p as ∧ ∀ a ∈ as, (H a ≠ none ∨ ∃ o, X.K.lookup a = some o ∧ o.cls = .type "list")
  | _, _, _, _, .non, r, e => by cases e; cases r; exact ⟨_, .none, by simp⟩
  | _, _, _, _, .bl b, r, e => by cases e; cases r; exact ⟨_, .bool b, by simp⟩
  | _, _, _, _, .int i, r, e => by cases e; obtain ⟨t, rfl⟩ := r; exact ⟨_, .int i t, by simp⟩
  | _, _, _, _, .str x, r, e => by cases e; obtain ⟨t, rfl⟩ := r; exact ⟨_, .str x t, by simp⟩
  | _, _, _, _, .ty n, r, e => by cases e
  | .lst xs, _, _, _, .lst h q, r, e => by
    simp only [toPyR] at e
    cases w : toPyRs xs with
    | none => rw [w] at e; cases e
    | some ps =>
      rw [w] at e
      cases e
      cases r
      obtain ⟨its, rv, ⟨o, n, ho, hc, _, hd⟩, _⟩ := I.list (SqL.of (g _ _ h))
      obtain ⟨as, hr, ha⟩ := Reps.reads I g q rv w
      refine ⟨_, Reads.list ho hc hd hr, fun a ha' => ?_⟩
      rcases List.mem_cons.mp ha' with z | z
      · exact .inl (by rw [z, g _ _ h]; simp)
      · exact ha a z
  | _, _, _, _, .scr h q, r, e => by cases e
  | .tup xs, _, _, _, .tup h q, r, e => by
    simp only [toPyR] at e
    cases w : toPyRs xs with
    | none => rw [w] at e; cases e
    | some ps =>
      rw [w] at e
      cases e
      cases r
      obtain ⟨its, rv, ⟨o, ho, hc, n, hd⟩, _⟩ := I.tuple (Same.sqt g h)
      obtain ⟨as, hr, ha⟩ := Reps.reads I g q rv w
      exact ⟨_, Reads.tuple ho hc hd hr, ha⟩
  | .dic kds, _, _, _, .dic (a := a) h q, r, e => by
    simp only [toPyR] at e
    cases w : toPyRk kds with
    | none => rw [w] at e; cases e
    | some ps =>
      rw [w] at e
      cases e
      cases r
      obtain ⟨_, _, vs, kv, o, es, ep, ho, hc, hd, _, hp, _⟩ := (show ObjOk X.prog X.w H s.heap _ (.dK _) from I.hok _ _ (g _ _ h))
      have k1 : ReadsAll s.heap (es.toList.map (·.key)) (ps.map (·.1)) [] := by
        rw [toPyRk_keys w]
        have z := keys_read (h := s.heap) hp
        have e1 : (kds.map fun kd => keyPy kd.1) = vs.map fun kv => keyPy kv.1 := by
          have := (repk_keys q).trans (kv_keys kv)
          have := congrArg (List.map keyPy) this
          rw [List.map_map, List.map_map] at this
          exact this
        rw [e1]
        exact z
      obtain ⟨bs, hr, hb⟩ := RepK.reads I g q (kv_vals kv) w
      rw [← pairs_vals hp] at hr
      refine ⟨_, Reads.dict ho hc.1 hd k1 hr, fun a ha' => ?_⟩
      simp only [List.append_nil, List.mem_append, List.mem_singleton] at ha'
      rcases ha' with z | z
      · exact .inl (by rw [z, g _ _ h]; simp)
      · exact hb a z
  | _, _, _, _, .ins h q, r, e => by cases e
  | _, _, _, _, .exc h h' q, r, e => by cases e
  | _, _, _, _, .exc0 h, r, e => by cases e
  | _, _, _, _, .cls k, r, e => by cases e
  | _, _, _, _, .ref a, r, e => by cases e
  | _, _, _, _, .loc h, r, e => by cases e
theorem Reps.reads (I : Inv X pins σ H s) (g : Same Z.g H) : ∀ {d : List D} {v : List V} {u : List Value} {p : List PyData}, Reps (tb X c) Z d v → Vals v u → toPyRs d = some p → ∃ as, ReadsAll s.heap u p as ∧ ∀ a ∈ as, (H a ≠ none ∨ ∃ o, X.K.lookup a = some o ∧ o.cls = .type "list")
  | _, _, _, _, .nil, r, e => by cases e; cases r; exact ⟨_, .nil, by simp⟩
  | x :: xs, _, _, _, .cons h q, r, e => by
    simp only [toPyRs] at e
    split at e
    · rename_i p ps e1 e2
      cases e
      cases r with
      | cons r1 r2 =>
        obtain ⟨as, h1, h2⟩ := Rep.reads I g h r1 e1
        obtain ⟨bs, h3, h4⟩ := Reps.reads I g q r2 e2
        exact ⟨_, .cons h1 h3, fun a ha => (List.mem_append.mp ha).elim (h2 a) (h4 a)⟩
    · cases e
theorem RepK.reads (I : Inv X pins σ H s) (g : Same Z.g H) : ∀ {d : List (Key × D)} {v : List (Key × V)} {u : List Value} {p : List (PyData × PyData)}, RepK (tb X c) Z d v → Vals (v.map (·.2)) u → toPyRk d = some p → ∃ as, ReadsAll s.heap u (p.map (·.2)) as ∧ ∀ a ∈ as, (H a ≠ none ∨ ∃ o, X.K.lookup a = some o ∧ o.cls = .type "list")
  | _, _, _, _, .nil, r, e => by cases e; cases r; exact ⟨_, .nil, by simp⟩
  | (k, x) :: xs, _, _, _, .cons h q, r, e => by
    simp only [toPyRk] at e
    split at e
    · rename_i p ps e1 e2
      cases e
      cases r with
      | cons r1 r2 =>
        obtain ⟨as, h1, h2⟩ := Rep.reads I g h r1 e1
        obtain ⟨bs, h3, h4⟩ := RepK.reads I g q r2 e2
        exact ⟨_, .cons h1 h3, fun a ha => (List.mem_append.mp ha).elim (h2 a) (h4 a)⟩
    · cases e
end
end
/-- repr(x), x a list, tuple or dict of data -/
def reprB : OpN := fun ds μ => match ds with
  | [.lst xs] => rp (toPyR (.lst xs))
  | [.tup xs] => rp (toPyR (.tup xs))
  | [.dic xs] => rp (toPyR (.dic xs))
  | [.int i] => if i.natAbs.log2 < 1920 then some (.str (toString i)) else none
  | _ => none
where rp (o : Option PyData) : Option D := match o with
  | some p => if p.showable = true ∧ p.depth ≤ 100 ∧ p.shown.length ≤ sizeLine then some (.str p.shown) else none
  | none => none
theorem c_repr {X : Cx} {c : Nat → Addr} {j : Nat} (hG : X.A.guards = some []) (hr : Room j X.A) (hS : ∃ o, X.base.get? sysModules = some o) (hSK : ∀ o, X.K.lookup sysModules = some o → o.cls ≠ .type "list") : CallR X (.builtin "repr") (rdC (tb X c) reprB) := by
  intro pins s σ H vs us Q I r h
  obtain ⟨Z, μ, ds, d, g, rd, e, q⟩ := h
  have core : ∀ {x : D} {v : V} {u : Value} {a : Addr}, v = .ref a → Rep (tb X c) Z x v → RelV v u → reprB.rp (toPyR x) = some d → wpAny (model X.prog X.w) X.A (call (.builtin "repr") [u]) (EP X pins σ Q) X.xe s := by
    intro x v u a ev rx ru ex
    unfold reprB.rp at ex
    split at ex
    · rename_i p hp
      split at ex
      · rename_i hh
        cases ex
        obtain ⟨as, hread, hna⟩ := Rep.reads I g.sub rx ru hp
        have ns : sysModules ∉ as := fun hm => by
          obtain ⟨o, ho⟩ := hS
          have hn := (I.bs _ _ ho).2
          rcases hna _ hm with z | ⟨o', z, zc⟩
          · exact z hn
          · exact hSK _ z zc
        subst ev
        obtain rfl : u = Value.ref a := ru
        obtain ⟨hp', gs, dr, tk, os⟩ := s
        exact repr_of_reads' hread hh.1 (fun _ => ns) hG (by have := hr.un; omega) (fun _ _ z => z) (fun h' t tk' kk => ⟨.str _, H, I.kept (t' := tk') kk, ⟨_, rfl⟩, q Z H _ Step.rfl g (.str _)⟩) hh.2.2
      · cases ex
    · cases ex
  simp only [reprB] at e
  split at e
  · cases rd with
    | cons r1 rd =>
      cases rd
      cases r with
      | cons u1 r =>
        cases r
        cases r1 with
        | lst h q' => exact core rfl (.lst h q') u1 e
  · cases rd with
    | cons r1 rd =>
      cases rd
      cases r with
      | cons u1 r =>
        cases r
        cases r1 with
        | tup h q' => exact core rfl (.tup h q') u1 e
  · cases rd with
    | cons r1 rd =>
      cases rd
      cases r with
      | cons u1 r =>
        cases r
        cases r1 with
        | dic h q' => exact core rfl (.dic h q') u1 e
  · rename_i i
    split at e
    · rename_i hz
      cases e
      cases rd with
      | cons r1 rd =>
        cases rd
        cases r with
        | cons u1 r =>
          cases r
          cases r1
          obtain ⟨t, rfl⟩ := u1
          exact PySem.P.repr_of_int hz ⟨.str _, H, I.tok _, ⟨_, rfl⟩, q Z H _ Step.rfl g (.str _)⟩
    · cases e
  · cases e

/-! ### enumerate -/
def enumL (i : Nat) : List D → List D
  | [] => []
  | d :: ds => .tup [.int (i : Int), d] :: enumL (i + 1) ds
theorem enumL_len : ∀ (ds : List D) (i : Nat), (enumL i ds).length = ds.length
  | [], _ => rfl
  | d :: ds, i => by
    show (enumL (i + 1) ds).length + 1 = _
    rw [enumL_len ds (i + 1)]
    rfl
theorem enumL_get : ∀ (ds : List D) (i j : Nat) (d : D), ds[j]? = some d → (enumL i ds)[j]? = some (.tup [.int ((i + j : Nat) : Int), d])
  | [], _, _, _, e => by simp at e
  | d :: ds, i, 0, _, e => by
    simp at e
    subst e
    rfl
  | d :: ds, i, j + 1, d', e => by
    have := enumL_get ds (i + 1) j d' (by simpa using e)
    show (enumL (i + 1) ds)[j]? = _
    rw [this]
    have z : i + 1 + j = i + (j + 1) := by omega
    rw [z]
def iEnumD (δs : DenA) : DenI := fun ρ μ => (δs ρ μ).bind fun ds μ1 => match ds with
  | [.lst xs] => .ok (enumL 0 xs) μ1
  | _ => .bad
theorem ri_e {T : Tab} {Z : Wd} {ds : List D} {a : Addr} {vs : List V} (h : Z.g a = some (.lst vs)) (r : Reps T Z ds vs) : RI T Z (enumL 0 ds) (Ite T.K a) := fun Z' H μ i l g => by
  have q : SqL T.K H a vs := SqL.of (g.sub _ _ (l.g _ _ h))
  have rr := r.mono l
  rw [enumL_len]
  refine ⟨fun hi => ?_, fun hi => ⟨vs, q, by rw [← r.length]; exact hi⟩⟩
  obtain ⟨y, hy, ry⟩ := rr.get (List.getElem?_eq_getElem hi)
  refine ⟨⟨vs, y, q, hy⟩, fun x H' ⟨T', x', e1, e2, e3, w⟩ => ?_⟩
  subst e1
  subst e3
  have ex : x' = y := Option.some.inj ((w vs q).symm.trans hy)
  subst ex
  refine ⟨Z'.add T' (.tup [.int (i : Nat), x']), .tup [.int ((0 + i : Nat) : Int), ds[i]], Step.add g e2, g.add _ e2, enumL_get ds 0 i _ (List.getElem?_eq_getElem hi), ?_⟩
  rw [Nat.zero_add]
  exact .tup (SqT.of upd_same) (.cons (.int _) (.cons (ry.mono (Step.add (o := .tup [.int (i : Nat), x']) g e2).le) .nil))
theorem di_enum {X : Cx} {c : Nat → Addr} {W : WX} {e : Expr} {δs : DenA} {p pos tpos : Pos} {elts : List Expr} {kk : Nat} (hg : Gl X "enumerate") (hm : X.mg "enumerate" = none) (hs : notStar e = true) (ha : PA X [e] (rdA (tb X c) W δs)) :
    PI X (.Tuple elts kk tpos) (.Call (.Name "enumerate" p) [e] [] pos) (rdI (tb X c) W (iEnumD δs)) := by
  refine PI.imp (pi_enum hg hm ha (star_cons hs [] X.env)) fun σ H Q h => ?_
  obtain ⟨Z, ρ, μ, g, s, h1⟩ := rd_then (R := Reps (tb X c)) (f := fun _ ds μ1 => (match ds with
    | [.lst xs] => .ok (enumL 0 xs) μ1
    | _ => .bad : Res (List D))) h
  refine ⟨Z, ρ, μ, g, s, post_mono h1 fun vs H1 ⟨Z1, ρ1, ds, μ1, g1, s1, r, q1⟩ => ?_⟩
  split at q1
  · cases r with
    | cons r1 r2 =>
      cases r2
      cases r1 with
      | lst h q => exact ⟨_, _, rfl, SqL.of (g1.sub _ _ h), q1 Z1 H1 _ Step.rfl g1 (ri_e h q)⟩
  · exact False.elim q1

/-! ### {} and a dict of one pair -/
def dDic0 : DenE := fun _ μ => .ok (.dic []) μ
def keyOf : D → Option Key
  | .int i => some (.inl i)
  | .str x => some (.inr x)
  | _ => none
/-- {k: v}, both constants -/
def dDic1 (k : Key) (d : D) : DenE := fun _ μ => .ok (.dic [(k, d)]) μ
section
variable {X : Cx} {c : Nat → Addr} {W : WX} {pos : Pos}
theorem de_dic0 : PE X (.Dict [] [] pos) (rdE (tb X c) W dDic0) := by
  refine PE.imp pe_dnewK fun σ H Q ⟨Z, ρ, μ, g, s, q⟩ => ?_
  exact fun p hp => q _ _ _ (Step.add g hp) (g.add _ hp) (.dic upd_same .nil)
theorem de_dic1 {k v : Expr} {key : Key} {d : D} {y : V} (hk : PE X k (tC (kV key))) (hv : PE X v (tC y)) (r : ∀ Z, Rep (tb X c) Z d y) : PE X (.Dict [some k] [v] pos) (rdE (tb X c) W (dDic1 key d)) := by
  refine PE.imp (pe_disp (pps_cons hk hv pps_nil) rfl rfl (fun z => by cases z) (by show 1 ≤ 15; decide)) fun σ H Q ⟨Z, ρ, μ, g, s, q⟩ => ?_
  intro p hp
  refine ⟨upd_same, [(key, y)], rfl, by show 1 ≤ 15; decide, ?_⟩
  rw [upd_upd]
  exact q _ _ _ (Step.add (o := .dK (mergeK [] [(key, y)])) g hp) (g.add _ hp) (.dic upd_same (.cons (r _) .nil))
/-! ### list(range(..)) -/
def dLstRg1 (δ : DenE) : DenE := fun ρ μ => (δ ρ μ).bind fun d μ1 => match d with
  | .int n => if 0 ≤ n ∧ n ≤ 16777216 then .ok (.lst (intsD 0 n.toNat)) μ1 else .bad
  | _ => .bad
theorem rgV_reps {T : Tab} {Z : Wd} (n : Int) : Reps T Z (intsD 0 n.toNat) (rgV 0 n) := by
  have e : (n - 0).toNat = n.toNat := by simp
  unfold intsD rgV
  rw [e]
  have aux : ∀ l : List Nat, Reps T Z (l.map fun i => D.int (0 + (i : Nat))) (l.map fun i => V.int (0 + (i : Nat))) := by
    intro l
    induction l with
    | nil => exact .nil
    | cons i l ih => exact .cons (.int _) ih
  exact aux _
theorem de_lstRg1 {e : Expr} {δ : DenE} {p p2 pos2 : Pos} (hc : X.calm = true) (hg : Gl X "list") (hm : X.mg "list" = none) (hg2 : Gl X "range") (hm2 : X.mg "range" = none) (hs : notStar e = true) (h : PE X e (rdE (tb X c) W δ)) :
    PE X (.Call (.Name "list" p) [.Call (.Name "range" p2) [e] [] pos2] [] pos) (rdE (tb X c) W (dLstRg1 δ)) := by
  refine PE.imp (pe_listRg hc hg hm (prg_1 hg2 hm2 h (star_cons hs [] X.env)) (star_cons rfl [] X.env)) fun σ H Q h => ?_
  obtain ⟨Z, ρ, μ, g, s, h1⟩ := rd_then (R := Rep (tb X c)) (f := fun _ d μ1 => (match d with
    | .int n => if 0 ≤ n ∧ n ≤ 16777216 then .ok (.lst (intsD 0 n.toNat)) μ1 else .bad
    | _ => .bad : Res D)) h
  refine ⟨Z, ρ, μ, g, s, post_mono h1 fun x H1 ⟨Z1, ρ1, dx, μ1, g1, s1, rx, q1⟩ => ?_⟩
  cases rx with
  | int n =>
    dsimp only at q1
    split at q1
    · rename_i hn
      exact ⟨n, rfl, RgOk.of_le (by decide) hn.2 (by decide) hn.1, new_lst g1 (rgV_reps n) q1⟩
    · exact False.elim q1
  | _ => exact False.elim q1
/-- a class or a built-in type as a value -/
theorem de_cls {x : Str} {k : Nat} (hg : Gl X x) (hm : X.mg x = some (.ref (c k))) (hd : (x == ("__debug__" : Str)) = false) : PE X (.Name x pos) (rdE (tb X c) W (dC (.cls k))) := de_c (pe_glob (v := .ref (c k)) hg hm rfl hd) fun _ => .cls k
theorem de_ty {x : Str} {n : String} (hg : Gl X x) (hm : X.mg x = none) (hv : bootBuiltins x = some (.type n)) (hn : x ≠ "__name__") (hd : (x == ("__debug__" : Str)) = false) : PE X (.Name x pos) (rdE (tb X c) W (dC (.ty n))) := de_c (pe_bltn (v := .ty n) hg hm hv rfl hn hd) fun _ => .ty n
end
end DL

set_option Elab.async false
set_option linter.all false
set_option autoImplicit false
set_option maxRecDepth 100000
/-! DL, part t: short words for derivations that are printed by program. -/
namespace DL
open PySem L2

/-- where a def's rows (or a comprehension's block) stand -/
structure Ct (X : Cx) (W : WX) (k : Nat) (N : List Str) (sc : Scope) : Prop where
  hN : X.N = N
  hs : X.env.scope = sc
  nd : N.Nodup
  calm : X.calm = true
  room : Room k X.A
  grd : X.A.guards = some []
  tk : Takes X W
  po : PassesOwn (model X.prog X.w) X.A X.env X.xe
  kd : sc.kind = .function
/-- the rows of a def itself -/
structure Cd (X : Cx) (W : WX) (k : Nat) (N : List Str) (sc : Scope) : Prop extends Ct X W k N sc where
  fn : ∀ x, X.fn x = true
/-- which names are seen (their places in N), stored, global -/
structure Sc (N : List Str) (sc : Scope) (U L : List Nat) (G : List Str) : Prop where
  vis : ∀ i ∈ U, ∀ x, N[i]? = some x → Vis sc x ∧ (x == ("__debug__" : Str)) = false ∧ (x == ("__classdict__" : Str)) = false
  loc : ∀ i ∈ L, ∀ x, N[i]? = some x → L2.Loc sc x
  gl : ∀ x ∈ G, sc.names.lookup x = some .globalImplicit ∧ (x == ("__debug__" : Str)) = false ∧ x ≠ ("__name__" : Str)
def visN (sc : Scope) (x : Str) : Bool := (match sc.names.lookup x with
  | some .local => true
  | some .cell => true
  | some .free => true
  | _ => false) && !(x == ("__debug__" : Str)) && !(x == ("__classdict__" : Str))
def locN (sc : Scope) (x : Str) : Bool := match sc.names.lookup x with
  | some .local => true
  | some .cell => true
  | _ => false
def glN (sc : Scope) (x : Str) : Bool := (match sc.names.lookup x with
  | some .globalImplicit => true
  | _ => false) && !(x == ("__debug__" : Str)) && !(x == ("__name__" : Str))
def scB (N : List Str) (sc : Scope) (U L : List Nat) (G : List Str) : Bool :=
  (U.all fun i => match N[i]? with | some x => visN sc x | none => true) && (L.all fun i => match N[i]? with | some x => locN sc x | none => true) && G.all (glN sc)
theorem sc_of {N : List Str} {sc : Scope} {U L : List Nat} {G : List Str} (h : scB N sc U L G = true) : Sc N sc U L G := by
  simp only [scB, Bool.and_eq_true, List.all_eq_true] at h
  obtain ⟨⟨h1, h2⟩, h3⟩ := h
  refine ⟨fun i hi x hx => ?_, fun i hi x hx => ?_, fun x hx => ?_⟩
  · have q := h1 i hi
    rw [hx] at q
    simp only [visN, Bool.and_eq_true, Bool.not_eq_true'] at q
    refine ⟨?_, q.1.2, q.2⟩
    have q1 := q.1.1
    unfold Vis
    split at q1
    · exact .inl (by assumption)
    · exact .inr (.inl (by assumption))
    · exact .inr (.inr (by assumption))
    · cases q1
  · have q := h2 i hi
    rw [hx] at q
    simp only [locN] at q
    unfold L2.Loc
    split at q
    · exact .inl (by assumption)
    · exact .inr (by assumption)
    · cases q
  · have q := h3 x hx
    simp only [glN, Bool.and_eq_true, Bool.not_eq_true'] at q
    refine ⟨?_, q.1.2, ?_⟩
    · have q1 := q.1.1
      split at q1
      · assumption
      · cases q1
    · have q2 := q.2
      intro z
      rw [z] at q2
      simp at q2

/-- arguments by place; by name, where they stand -/
def gP : List D → List D → List D := fun ds _ => ds
def gK (p : List Nat) : List D → List D → List D := fun _ es => p.map fun i => es.getD i .non
theorem bt_len : bootBuiltins "len" = some (.builtin "len") := by decide +kernel
theorem bt_abs : bootBuiltins "abs" = some (.builtin "abs") := by decide +kernel
theorem bt_max : bootBuiltins "max" = some (.builtin "max") := by decide +kernel
theorem bt_min : bootBuiltins "min" = some (.builtin "min") := by decide +kernel
theorem bt_divmod : bootBuiltins "divmod" = some (.builtin "divmod") := by decide +kernel
theorem bt_all : bootBuiltins "all" = some (.builtin "all") := by decide +kernel
theorem bt_repr : bootBuiltins "repr" = some (.builtin "repr") := by decide +kernel
theorem bt_isinstance : bootBuiltins "isinstance" = some (.builtin "isinstance") := by decide +kernel
theorem bt_int : bootBuiltins "int" = some (.type "int") := by decide +kernel
theorem bt_str : bootBuiltins "str" = some (.type "str") := by decide +kernel
theorem bt_bool : bootBuiltins "bool" = some (.type "bool") := by decide +kernel
theorem bt_list : bootBuiltins "list" = some (.type "list") := by decide +kernel
theorem bt_tuple : bootBuiltins "tuple" = some (.type "tuple") := by decide +kernel
theorem bt_dict : bootBuiltins "dict" = some (.type "dict") := by decide +kernel
theorem bt_ValueError : bootBuiltins "ValueError" = some (.type "ValueError") := by decide +kernel
theorem bt_LookupError : bootBuiltins "LookupError" = some (.type "LookupError") := by decide +kernel
theorem bt_RuntimeError : bootBuiltins "RuntimeError" = some (.type "RuntimeError") := by decide +kernel
def notSet : Expr → Bool
  | .Set .. => false
  | _ => true
section
variable {X : Cx} {c : Nat → Addr} {W : WX} {k : Nat} {N : List Str} {sc : Scope} {U L : List Nat} {G : List Str} {pos p : Pos}
theorem Ct.gl (C : Ct X W k N sc) (S : Sc N sc U L G) {x : Str} {j : Nat} (h : G[j]? = some x) : Gl X x ∧ (x == ("__debug__" : Str)) = false ∧ x ≠ ("__name__" : Str) := by
  obtain ⟨a, b⟩ := S.gl x (List.mem_of_getElem? h)
  refine ⟨?_, b⟩
  show X.env.scope.names.lookup x = _
  rw [C.hs]
  exact a
theorem v (C : Ct X W k N sc) (S : Sc N sc U L G) (i : Nat) {x : Str} {W' : WX} (hi : i ∈ U := by decide) (hx : N[i]? = some x := by rfl) : PE X (.Name x pos) (rdE (tb X c) W' (dVar i)) := by
  obtain ⟨a, b, d⟩ := S.vis i hi x hx
  exact de_var (by rw [C.hN]; exact hx) (by rw [C.hs]; exact a) b d
theorem Ct.seen (C : Ct X W k N sc) (h : scB N sc U L G = true) : Sc N sc U L G := sc_of h
theorem Cd.lc (C : Cd X W k N sc) (S : Sc N sc U L G) {i : Nat} {x : Str} (hi : i ∈ L) (hx : N[i]? = some x) : X.N[i]? = some x ∧ L2.Loc X.env.scope x ∧ (X.fn x = true ∨ X.env.scope.names.lookup x = some .local) := by
  have a := S.loc i hi x hx
  exact ⟨by rw [C.hN]; exact hx, by rw [C.hs]; exact a, .inl (C.fn x)⟩
theorem g_set (C : Cd X W k N sc) (S : Sc N sc U L G) (i : Nat) {x : Str} (hi : i ∈ L := by decide) (hx : N[i]? = some x := by rfl) : PG X (.Name x pos) (rdTg (tb X c) (gSet i)) := by
  obtain ⟨a, b, d⟩ := C.lc S hi hx
  exact dg_name (by rw [C.hN]; exact C.nd) a b d
theorem s_set (C : Cd X W k N sc) (S : Sc N sc U L G) (i : Nat) {x : Str} {e : Expr} {δ : DenE} (h : PE X e (rdE (tb X c) W δ)) (hn : notComp e = true := by rfl) (hi : i ∈ L := by decide) (hx : N[i]? = some x := by rfl) : PS X (.Assign [.Name x p] e pos) (rdS (tb X c) W (sSet i δ)) := by
  obtain ⟨a, b, d⟩ := C.lc S hi hx
  exact ds_set (by rw [C.hN]; exact C.nd) a b d hn h
/-- f(..), a built-in function | type -/
theorem e_blt (C : Ct X W k N sc) (S : Sc N sc U L G) (j : Nat) {x : Str} {id : String} {o : OpN} {e : Expr} {es : List Expr} {δs : DenA} (ho : CallR X (.builtin id) (rdC (tb X c) o)) (hm : X.mg x = none) (hv : bootBuiltins x = some (.builtin id)) (ha : PA X (e :: es) (rdA (tb X c) W δs))
    (hj : G[j]? = some x := by rfl) (hst : (e :: es).all notStar = true := by rfl) : PE X (.Call (.Name x p) (e :: es) [] pos) (rdE (tb X c) W (dBlt o δs)) := by
  obtain ⟨a, b, d⟩ := C.gl S hj
  exact de_blt ho a hm hv hst ha d b
theorem e_bty (C : Ct X W k N sc) (S : Sc N sc U L G) (j : Nat) {x : Str} {id : String} {o : OpN} {e : Expr} {es : List Expr} {δs : DenA} (ho : CallR X (.type id) (rdC (tb X c) o)) (hm : X.mg x = none) (hv : bootBuiltins x = some (.type id)) (ha : PA X (e :: es) (rdA (tb X c) W δs))
    (hj : G[j]? = some x := by rfl) (hst : (e :: es).all notStar = true := by rfl) : PE X (.Call (.Name x p) (e :: es) [] pos) (rdE (tb X c) W (dBlt o δs)) := by
  obtain ⟨a, b, d⟩ := C.gl S hj
  exact de_bty ho a hm hv hst ha d b
/-- an own def by its global name -/
structure Fn (P : Program) (w : World) (K : PySem.W.Frag) (mg : Str → Option Value) (base : Heap) (cl : Nat → Addr) (x : Str) (ps : List Str) (k : Nat) (m : Mir) : Prop where
  ex : ∃ f fd, mg x = some (.ref f) ∧ PySem.W.keepIn K (.ref f) = true ∧ GnOk P w K mg base k f fd ps (spM ⟨K, cl⟩ ps.length m) ∧ Binds K fd ps []
theorem e_call (C : Ct X W k N sc) (S : Sc N sc U L G) (j : Nat) {x : Str} {ps : List Str} {k' : Nat} {m : Mir} {es : List Expr} {δs : DenA} (F : Fn X.prog X.w X.K X.mg X.base c x ps k' m) (ha : PA X es (rdA (tb X c) W δs)) (hk : k' ≤ k := by decide)
    (hj : G[j]? = some x := by rfl) (hst : es.all notStar = true := by rfl) (hnil : es = [] → δs = dNil := by intro z; cases z) : PE X (.Call (.Name x p) es [] pos) (rdE (tb X c) W (dCallK ps.length 0 (fun ds _ => ds) m δs dNil)) := by
  obtain ⟨a, b, d⟩ := C.gl S hj
  obtain ⟨f, fd, h1, h2, h3, h4⟩ := F.ex
  exact de_call (kws := []) h3 (C.room.mono hk) C.grd C.tk a h1 h2 (kb_pos (T := tb X c) h4) b hnil hst rfl ha dk_nil
theorem e_exc (C : Ct X W k N sc) (S : Sc N sc U L G) (j : Nat) {x : Str} {n np : Nat} {ps : List Str} {g : List D → List D → List D} {es : List Expr} {kws : List Keyword} {δs δk : DenA} (M : XMk X.K c n ps (kwNames kws) np g) (hm : X.mg x = some (.ref (c n)))
    (ha : PA X es (rdA (tb X c) W δs)) (hkw : PK X kws (rdA (tb X c) W δk)) (hj : G[j]? = some x := by rfl) (hst : es.all notStar = true := by rfl) (hkn : kws.all (·.arg.isSome) = true := by rfl) (hnil : es = [] → δs = dNil := by first | (intro _; rfl) | (intro z; cases z)) :
    PE X (.Call (.Name x p) es kws pos) (rdE (tb X c) W (dExc n np (kwNames kws).length ps g δs δk)) := by
  obtain ⟨a, b, d⟩ := C.gl S hj
  exact de_exc M C.room a hm b hnil hst hkn ha hkw
theorem e_exc0 (C : Ct X W k N sc) (S : Sc N sc U L G) (j : Nat) {x : Str} {n : Nat} (M : XMk0 X.K (c n)) (hm : X.mg x = some (.ref (c n))) (hj : G[j]? = some x := by rfl) : PE X (.Call (.Name x p) [] [] pos) (rdE (tb X c) W (dExc0 n)) := by
  obtain ⟨a, b, d⟩ := C.gl S hj
  exact de_exc0 M a hm b
theorem e_cls (C : Ct X W k N sc) (S : Sc N sc U L G) (j : Nat) {x : Str} {n : Nat} (hm : X.mg x = some (.ref (c n))) (hj : G[j]? = some x := by rfl) : PE X (.Name x pos) (rdE (tb X c) W (dC (.cls n))) := by
  obtain ⟨a, b, d⟩ := C.gl S hj
  exact de_cls a hm b
theorem e_ty (C : Ct X W k N sc) (S : Sc N sc U L G) (j : Nat) {x : Str} {n : String} (hm : X.mg x = none) (hv : bootBuiltins x = some (.type n)) (hj : G[j]? = some x := by rfl) : PE X (.Name x pos) (rdE (tb X c) W (dC (.ty n))) := by
  obtain ⟨a, b, d⟩ := C.gl S hj
  exact de_ty a hm hv d b
theorem e_xf {e : Expr} {f : Str} {δ : DenE} {cs : List Nat} (M : NoF X.K c cs f) (h : PE X e (rdE (tb X c) W δ)) (hb : attributeBase e f X.env (eval e X.env) = eval e X.env := by rfl) : PE X (.Attribute e f pos) (rdE (tb X c) W (dUn (xfC cs f) δ)) := de_xf M hb h
/-- the list comprehension, one name as its target -/
theorem blk_ct (C : Ct X W k N sc) {scope : Scope} {own : List (Str × Nat)} (bo : BlkOk N sc scope own) (s : Shared) (H : Hp) (Cc : Addr) (cl : List (Str × Addr)) (fp : List Addr) : Ct (X.blk s H scope (compEnvC scope cl Cc X.env) fp) W0 k N (relS scope sc) := by
  refine ⟨C.hN, ?_, C.nd, C.calm, C.room, C.grd, fun _ _ z => ?_, PassesOwn.never, ?_⟩
  · rw [← C.hs]
    rfl
  · obtain ⟨_, _, _, _, _, _, _, _, _, _, _, _, _, _, _, _, w⟩ := z
    exact w.elim
  · exact bo.kind
theorem foldSet_of {e : Expr} (h : notSet e = true) (env : PySem.Env) (x : Value) : foldedSetIterable e env x = pure x := by
  cases e <;> first | rfl | cases h
theorem own_loc {scope : Scope} {x : Str} (h : scope.names.lookup x = some .local) (s : Shared) (H : Hp) (Cc : Addr) (cl : List (Str × Addr)) (fp : List Addr) : (X.blk s H scope (compEnvC scope cl Cc X.env) fp).env.scope.names.lookup x = some .local := lookup_relabel_local h
theorem own_tg (C : Ct X W k N sc) {i : Nat} {x : Str} {scope : Scope} (hx : N[i]? = some x) (hl : scope.names.lookup x = some .local) (s : Shared) (H : Hp) (Cc : Addr) (cl : List (Str × Addr)) (fp : List Addr) : PG (X.blk s H scope (compEnvC scope cl Cc X.env) fp) (.Name x p) (gName i) :=
  pg_name (by show X.N.Nodup; rw [C.hN]; exact C.nd) (by show X.N[i]? = some x; rw [C.hN]; exact hx) (.inl (own_loc hl s H Cc cl fp)) (.inr (own_loc hl s H Cc cl fp))
/-- [elt for x in iter] with x at the place i -/
theorem e_lc1 (C : Ct X W k N sc) (i : Nat) {x : Str} {elt iter : Expr} {ifs : List Expr} {scope : Scope} {it : DenI} {τ : DenT} {ε : DenE} (bo : BlkOk N sc scope [(x, i)]) (hi : PI X (.Name x p) iter (rdI (tb X c) W it))
    (ht : Blk X scope fun Y => Ct Y W0 k N (relS scope sc) → PTs Y ifs (rdT (tb X c) W0 τ)) (he : Blk X scope fun Y => Ct Y W0 k N (relS scope sc) → PE Y elt (rdE (tb X c) W0 ε)) (hl : scope.names.lookup x = some .local := by rfl)
    (hfs : notSet iter = true := by rfl) : PE X (.ListComp elt [⟨.Name x p, iter, ifs, 0⟩] scope pos) (rdE (tb X c) W (dLc [i] it (vName i) τ ε)) := by
  have bo' : BlkOk X.N X.env.scope scope [(x, i)] := by rw [C.hN, C.hs]; exact bo
  exact de_lc (own := [(x, i)]) C.calm (by rw [C.hN]; exact C.nd) hi bo' (fun s H Cc cl fp => own_tg C (bo.ix _ List.mem_cons_self) hl s H Cc cl fp) (tg_name (by simp)) (fun s H Cc cl fp => ht s H Cc cl fp (blk_ct C bo s H Cc cl fp)) (fun s H Cc cl fp => he s H Cc cl fp (blk_ct C bo s H Cc cl fp)) fun z => foldSet_of hfs _ z
/-- y = [elt for x in iter] -/
theorem s_lc1 (C : Cd X W k N sc) (S : Sc N sc U L G) (j i : Nat) {x y : Str} {elt iter : Expr} {ifs : List Expr} {scope : Scope} {it : DenI} {τ : DenT} {ε : DenE} {p2 p3 : Pos} (bo : BlkOk N sc scope [(x, i)]) (hi : PI X (.Name x p) iter (rdI (tb X c) W it))
    (ht : Blk X scope fun Y => Ct Y W0 k N (relS scope sc) → PTs Y ifs (rdT (tb X c) W0 τ)) (he : Blk X scope fun Y => Ct Y W0 k N (relS scope sc) → PE Y elt (rdE (tb X c) W0 ε)) (hl : scope.names.lookup x = some .local := by rfl)
    (hfs : notSet iter = true := by rfl) (hy : N[j]? = some y := by rfl) (hyl : sc.names.lookup y = some .local := by decide +kernel) (hln : (p2.line == pos.line) = true := by rfl)
    (hnn : (scope.names.any fun (n, k) => n == y && (k == .local || k == .cell)) = false := by decide +kernel) : PS X (.Assign [.Name y p2] (.ListComp elt [⟨.Name x p, iter, ifs, 0⟩] scope pos) p3) (rdS (tb X c) W (sSet j (dLc [i] it (vName i) τ ε))) := by
  have bo' : BlkOk X.N X.env.scope scope [(x, i)] := by rw [C.hN, C.hs]; exact bo
  exact ds_setLc (own := [(x, i)]) C.calm (by rw [C.hN]; exact C.nd) (by rw [C.hN]; exact hy) (by rw [C.hs]; exact hyl) (sw_true (by rw [C.hs]; exact C.kd) (by rw [C.hs]; exact hyl) hln hnn) hi bo' (fun s H Cc cl fp => own_tg C.toCt (bo.ix _ List.mem_cons_self) hl s H Cc cl fp) (tg_name (by simp))
    (fun s H Cc cl fp => ht s H Cc cl fp (blk_ct C.toCt bo s H Cc cl fp)) (fun s H Cc cl fp => he s H Cc cl fp (blk_ct C.toCt bo s H Cc cl fp)) fun z => foldSet_of hfs _ z
theorem i_rng1 (C : Ct X W k N sc) (S : Sc N sc U L G) (j : Nat) {tg a : Expr} {δs : DenA} (hm : X.mg "range" = none) (ha : PA X [a] (rdA (tb X c) W δs)) (hj : G[j]? = some ("range" : Str) := by rfl) (hs : notStar a = true := by rfl) : PI X tg (.Call (.Name "range" p) [a] [] pos) (rdI (tb X c) W (iRng1 δs)) := di_rng1 (C.gl S hj).1 hm hs ha
theorem i_rng2 (C : Ct X W k N sc) (S : Sc N sc U L G) (j : Nat) {tg a b : Expr} {δs : DenA} (hm : X.mg "range" = none) (ha : PA X [a, b] (rdA (tb X c) W δs)) (hj : G[j]? = some ("range" : Str) := by rfl) (hs : notStar a = true := by rfl) (hs2 : notStar b = true := by rfl) : PI X tg (.Call (.Name "range" p) [a, b] [] pos) (rdI (tb X c) W (iRng2 δs)) := di_rng2 (C.gl S hj).1 hm hs hs2 ha
theorem i_enum (C : Ct X W k N sc) (S : Sc N sc U L G) (j : Nat) {e : Expr} {δs : DenA} {elts : List Expr} {kk : Nat} {tpos : Pos} (hm : X.mg "enumerate" = none) (ha : PA X [e] (rdA (tb X c) W δs)) (hj : G[j]? = some ("enumerate" : Str) := by rfl) (hs : notStar e = true := by rfl) :
    PI X (.Tuple elts kk tpos) (.Call (.Name "enumerate" p) [e] [] pos) (rdI (tb X c) W (iEnumD δs)) := di_enum (C.gl S hj).1 hm hs ha
theorem e_lrg (C : Ct X W k N sc) (S : Sc N sc U L G) (j i : Nat) {e : Expr} {δ : DenE} {p2 pos2 : Pos} (hm : X.mg "list" = none) (hm2 : X.mg "range" = none) (h : PE X e (rdE (tb X c) W δ)) (hj : G[j]? = some ("list" : Str) := by rfl) (hi : G[i]? = some ("range" : Str) := by rfl) (hs : notStar e = true := by rfl) :
    PE X (.Call (.Name "list" p) [.Call (.Name "range" p2) [e] [] pos2] [] pos) (rdE (tb X c) W (dLstRg1 δ)) := de_lstRg1 C.calm (C.gl S hj).1 hm (C.gl S hi).1 hm2 hs h
theorem s_for (C : Cd X W k N sc) {tg iter : Expr} {body : List Stmt} {it : DenI} {γ : DenG} {δ : DenS} (hi : PI X tg iter (rdI (tb X c) W it)) (hg : PG X tg (rdTg (tb X c) γ)) (hb : PSs X body (rdS (tb X c) W δ)) (hfs : notSet iter = true := by rfl) :
    PS X (.For tg iter body [] pos) (rdS (tb X c) W (sFor it γ δ)) := ds_for C.po C.calm hi hg hb fun z => foldSet_of hfs _ z
theorem s_par2 (C : Cd X W k N sc) (i j : Nat) {x y : Str} {u v : Expr} {px py pt pt2 : Pos} {kt k2 : Nat} {δs : DenA} (ha : PA X [u, v] (rdA (tb X c) W δs)) (hx : sc.names.lookup x = some .local) (hy : sc.names.lookup y = some .local) (hw : swappedStores [.Tuple [.Name x px, .Name y py] kt pt] (.Tuple [u, v] k2 pt2) X.env = pure (some [x, y]))
    (hi : N[i]? = some x := by rfl) (hj : N[j]? = some y := by rfl) (hij : i ≠ j := by decide) : PS X (.Assign [.Tuple [.Name x px, .Name y py] kt pt] (.Tuple [u, v] k2 pt2) pos) (rdS (tb X c) W (sPar2 i j δs)) :=
  ds_par2 C.calm (by rw [C.hN]; exact C.nd) (by rw [C.hN]; exact hi) (by rw [C.hN]; exact hj) hij (by rw [C.hs]; exact hx) (by rw [C.hs]; exact hy) ha hw
theorem s_par3 (C : Cd X W k N sc) (i j l : Nat) {x y z : Str} {u v w : Expr} {px py pz pt pt2 : Pos} {kt k2 : Nat} {δs : DenA} (ha : PA X [u, v, w] (rdA (tb X c) W δs)) (hx : sc.names.lookup x = some .local) (hy : sc.names.lookup y = some .local) (hz : sc.names.lookup z = some .local)
    (hw : swappedStores [.Tuple [.Name x px, .Name y py, .Name z pz] kt pt] (.Tuple [u, v, w] k2 pt2) X.env = pure (some [x, y, z])) (hi : N[i]? = some x := by rfl) (hj : N[j]? = some y := by rfl) (hl : N[l]? = some z := by rfl) (hij : i ≠ j := by decide) (hil : i ≠ l := by decide) (hjl : j ≠ l := by decide) :
    PS X (.Assign [.Tuple [.Name x px, .Name y py, .Name z pz] kt pt] (.Tuple [u, v, w] k2 pt2) pos) (rdS (tb X c) W (sPar3 i j l δs)) :=
  ds_par3 C.calm (by rw [C.hN]; exact C.nd) (by rw [C.hN]; exact hi) (by rw [C.hN]; exact hj) (by rw [C.hN]; exact hl) hij hil hjl (by rw [C.hs]; exact hx) (by rw [C.hs]; exact hy) (by rw [C.hs]; exact hz) ha hw
end
/-- THE RULE for a def, for printed derivations -/
theorem fn_t {P : Program} {w : World} {K : PySem.W.Frag} {mg : Str → Option Value} {base : Heap} {cl : Nat → Addr} {k : Nat} {f : Addr} {name qual : Str} {st : Stmt} {kV doc pm cdv ct oc : Value} {an od : Option Addr} {osl : Array (Option Value)} {N ps : List Str} {δ : DenS}
    (lk : K.lookup f = some ⟨oc, od, .func (PySem.W.fnOf name qual (defArgs st) (defBody st) (defScope st) .none kV doc pm an cdv ct), osl⟩) (hcd : PySem.W.codeIn K cdv qual = true) (S : FnScope N ps (defScope st))
    (hb : ∀ (A : Around) (outer : List PySem.Env) (s : Shared) (H : Hp) (E : XK), Cd (cxOf (L2.CX P w) P w K mg base N qual (defScope st) f cdv A outer s H E) (fun cls d _ H' => E cls d H') k N (defScope st) →
      PSs (cxOf (L2.CX P w) P w K mg base N qual (defScope st) f cdv A outer s H E) (defBody st) (rdS ⟨K, cl⟩ (fun cls d _ H' => E cls d H') δ)) :
    GnOk P w K mg base (k + 1) f (PySem.W.fnOf name qual (defArgs st) (defBody st) (defScope st) .none kV doc pm an cdv ct) ps (spM ⟨K, cl⟩ ps.length (runBody N.length δ)) := fn_d2 lk hcd S fun A outer s H E hr hG tk po => hb A outer s H E ⟨⟨rfl, rfl, S.nd, rfl, hr, hG, tk, po, S.kind⟩, fun _ => rfl⟩
end DL

set_option Elab.async false
set_option linter.all false
set_option autoImplicit false
set_option maxRecDepth 100000
/-! DL, part s: the end of a law. -/
namespace DL
open PySem L2 PySem.Spec PyProof.Rows

theorem reps_ints {T : Tab} {Z : Wd} : ∀ ns : List Int, Reps T Z (ns.map D.int) (ns.map V.int)
  | [] => .nil
  | n :: ns => .cons (.int n) (reps_ints ns)
theorem no_cx {P : Program} {w : World} {H : Hp} {s s' : Shared} {e : Value} (h : L2.CX P w [] H s (fun _ _ _ => False) e s') : False := by
  obtain ⟨_, _, _, _, _, _, _, _, _, _, _, _, z⟩ := h
  exact z
/-- the law's def, called with the script, from its promise over every base -/
theorem law_g {P : Program} {w : World} {K : PySem.W.Frag} {mg mb : Str → Option Value} {cl : Nat → Addr} {k : Nat} {fa a : Addr} {fd : FuncData} {x : Str} {m : Mir} {s₁ : Shared} {vs : List Value} {ns : List Int}
    (KX : K.In s₁.heap) (hns : s₁.heap.Ns mainGlobals mg) (hb : s₁.heap.Ns builtinsNs mb) (hbb : ∀ x : Str, x ≠ "__name__" → mb x = bootBuiltins x) (hlim : s₁.heap.NoLimit) (hg : s₁.gens = #[])
    (ha : s₁.heap.get? a = some { cls := .type "list", data := .seq vs.toArray }) (hi : IntsAre vs ns) (hl : ns.length ≤ sizeLine) (hr : Room k callerA)
    (hsm : ∃ mm, s₁.heap.Ns sysModules mm) (F : ∀ base : Heap, K.In base → base.Ns mainGlobals mg → (∃ o, base.get? sysModules = some o) → GnOk P w K mg base k fa fd [x] (spM ⟨K, cl⟩ 1 m)) (hbind : ∀ (s : Shared) (u : Value), BindsTo s fd ⟨[u], []⟩ [(x, u)])
    (hm : ∃ μ, m [.scr (ns.map D.int)] [] = .ok (.bl true) μ) :
    codeAny (model P w) callerA (.call (.ref fa) ⟨[.ref a], []⟩) (fun r s' => r = .ok (.ret (.bool true)) ∧ OldK s₁.heap s'.heap ∧ s'.os = s₁.os ∧ AllBare s'.gens) s₁ := by
  have rv := vals_ints hi
  have lenV := hi.length
  obtain ⟨H, hO, hA⟩ : ∃ H : Hp, (∀ b, b ≠ a → H b = none) ∧ ((H a = none ∧ SqL K H a (ns.map V.int)) ∨ (K.lookup a = none ∧ H a = some (.frz { cls := .type "list", data := .seq vs.toArray } (.lst (ns.map V.int))))) := by
    cases hk : K.lookup a with
    | none => exact ⟨fun b => if b = a then some (.frz { cls := .type "list", data := .seq vs.toArray } (.lst (ns.map V.int))) else none, fun b hb => if_neg hb, .inr ⟨rfl, if_pos rfl⟩⟩
    | some o =>
      have e := KX a o hk
      rw [ha] at e
      cases e
      exact ⟨fun _ => none, fun _ _ => rfl, .inl ⟨rfl, .inr ⟨_, vs.toArray, _, hk, rfl, rfl, rfl, by rw [List.size_toArray, lenV]; exact hl, by simpa using rv⟩⟩⟩
  have hS : SqL K H a (ns.map V.int) := by
    rcases hA with ⟨_, z⟩ | ⟨_, z⟩
    · exact z
    · exact .inl (.inr ⟨_, z⟩)
  have only : ∀ {b : Addr} {u : HO}, H b = some u → b = a ∧ K.lookup a = none ∧ u = .frz { cls := .type "list", data := .seq vs.toArray } (.lst (ns.map V.int)) := fun {b u} e => by
    by_cases hba : b = a
    · rcases hA with ⟨z, _⟩ | ⟨z1, z⟩
      · rw [hba, z] at e
        cases e
      · rw [hba, z] at e
        exact ⟨hba, z1, (Option.some.inj e).symm⟩
    · rw [hO b hba] at e
      cases e
  have hok : HOk P w H s₁.heap := fun b u z => by
    obtain ⟨e1, _, e2⟩ := only z
    subst e1 e2
    exact ⟨ha, by rw [List.length_map]; exact hl, vs, _, rv, ha⟩
  have dict_out : ∀ {b : Addr} {m : Str → Option Value}, s₁.heap.Ns b m → (hidT s₁.heap H).Ns b m := fun {b m} ⟨o, es, ep, e, d, r⟩ => by
    refine ⟨o, es, ep, hidT_get e ?_, d, r⟩
    cases q : H b with
    | none => rfl
    | some u =>
      obtain ⟨e1, _⟩ := only q
      subst e1
      rw [ha] at e
      cases e
      cases d
  have hKb : K.In (hidT s₁.heap H) := fun b o e => hidT_get (KX b o e) (by
    cases q : H b with
    | none => rfl
    | some u =>
      obtain ⟨e1, e2, _⟩ := only q
      rw [e1, e2] at e
      cases e)
  have hM : L2.Mod K mg (hidT s₁.heap H) := ⟨hKb, dict_out hns, ⟨mb, dict_out hb, hbb⟩, let ⟨mc, h1, h2⟩ := hlim; ⟨mc, dict_out h1, h2⟩⟩
  have none_in : ∀ b : Addr, ¬ b ∈ ([] : List Addr) := fun b => by simp
  have e0 : Env0 P w K mg (hidT s₁.heap H) callerA [] s₁ H := ⟨rfl, hM, fun b o e => of_hidT e, Nat.le_of_eq (hidT_size _ _), trivial, fun b hb => absurd hb (none_in b), hok, .of_eq hg⟩
  obtain ⟨μ, hm⟩ := hm
  have gd : Good ⟨K, cl⟩ ⟨H, []⟩ H [] := ⟨fun _ _ e => e, rfl, List.nodup_nil, fun b hb => absurd hb (none_in b), fun n b m e => by simp at e⟩
  have sp : spM ⟨K, cl⟩ 1 m [.ref a] H (fun v _ => v = .bl true) fun _ _ _ => False := by
    refine ⟨rfl, ⟨H, []⟩, [.scr (ns.map D.int)], [], gd, .cons (.scr hS (reps_ints ns)) .nil, ?_⟩
    rw [hm]
    intro Z' H' v l g r
    cases r
    rfl
  refine codeAny_mono ((F _ hKb (dict_out hns) (let ⟨_, z⟩ := hsm; let ⟨o, _, _, e, _⟩ := dict_out z; ⟨o, e⟩)).run callerA [] s₁ H ⟨[.ref a], []⟩ [.ref a] [.ref a] _ _ hr rfl e0 (hbind s₁ (.ref a)) (.cons rfl .nil) sp) fun r s' h => ?_
  cases r with
  | error e => exact (no_cx h).elim
  | ok fl =>
    cases fl with
    | next => exact False.elim h
    | brk => exact False.elim h
    | cont => exact False.elim h
    | ret u =>
      obtain ⟨v, H', os, bare, un, hok', r', q⟩ := h
      have q' : v = .bl true := q
      subst q'
      obtain rfl : u = Value.bool true := r'
      refine ⟨rfl, OldK.of_keep fun b o e => ?_, os, bare⟩
      cases q : H b with
      | none => exact un.keep b o e q (none_in b) (none_in b)
      | some u =>
        obtain ⟨e1, _, e2⟩ := only q
        subst e2
        obtain ⟨h1, _⟩ := hok b _ q
        obtain ⟨h2, _⟩ := hok' b _ (un.frzs b _ _ q)
        rw [e] at h1
        cases h1
        exact h2
/-- what is left of a law behind k_fill -/
theorem walk_g {l : PySem.W.OpenLaw} {n k : Nat} {q : Program} {loose : List Str} {XP : (Str → Option Value) → Heap → Prop} {YP : World → Heap → Prop} {d : DefRec} {K : Params → PySem.W.Frag} {x : Str} {m : Mir}
    (hn : l.most = some n) (hn2 : n ≤ sizeLine) (hdf : d.params.defaults = []) (hr : Room k callerA) (hI : importsNone q = true) (hY : ∀ (w : World) (h : Heap), YP w h → (K w.params).In h)
    (F : ∀ (w : World) (mg : Str → Option Value) (fa : Addr) (h : Heap), (K w.params).In h → h.Ns mainGlobals mg → mg d.name = some (.ref fa) →
      ∃ (fd : FuncData) (cl : Nat → Addr), (∀ (s : Shared) (u : Value), BindsTo s fd ⟨[u], []⟩ [(x, u)]) ∧ ∀ base : Heap, (K w.params).In base → base.Ns mainGlobals mg → (∃ o, base.get? sysModules = some o) → GnOk l.prog w (K w.params) mg base k fa fd [x] (spM ⟨K w.params, cl⟩ 1 m))
    (hm : ∀ ns : List Int, ns.length ≤ n → (∀ z ∈ ns, Builtin.Int.intBits z ≤ 1048576) → ∃ μ, m [.scr (ns.map D.int)] [] = .ok (.bl true) μ) :
    PySem.W.WalkO q loose XP YP l.row.toRowW d [] (fun f vs => PySem.call f vs) := by
  refine Att.attach_callB hn hdf fun w s₀ s₁ mg mb fa o pm cd doc a vs ns G Y ho hd hcd hmg hobj hints hlen hbits hg => ?_
  have KX := hY w _ Y
  obtain ⟨fd, cl, hb, hF⟩ := F w mg fa _ KX G.T.g hmg
  exact law_g KX G.T.g G.T.b G.T.builtins G.T.nolimit hg hobj hints (Nat.le_trans hlen hn2) hr (let ⟨mm, z, _⟩ := (G.T.seer hI).mods; ⟨mm, z⟩) hF hb (hm ns hlen hbits)
end DL

set_option Elab.async false
set_option linter.all false
set_option autoImplicit false
set_option maxRecDepth 100000
/-! DL, part r: classes of exceptions by tables. -/
namespace DL
open PySem L2 PySem.DLX PySem.W

def famN : Nat → String
  | 0 => "ValueError"
  | 1 => "LookupError"
  | _ => "RuntimeError"
def bmF : Nat → List Value
  | 0 => [.type "ValueError", .type "Exception", .type "BaseException", .type "object"]
  | 1 => [.type "LookupError", .type "Exception", .type "BaseException", .type "object"]
  | _ => [.type "RuntimeError", .type "Exception", .type "BaseException", .type "object"]
def nwF : Nat → String
  | 0 => "ValueError.__new__"
  | 1 => "LookupError.__new__"
  | _ => "RuntimeError.__new__"
def inF : Nat → String
  | 0 => "ValueError.__init__"
  | 1 => "LookupError.__init__"
  | _ => "RuntimeError.__init__"
theorem famF (b : Nat) : ExcBaseFacts (famN b) (nwF b) (inF b) (bmF b) := match b with
  | 0 => F.excBase_ValueError
  | 1 => F.excBase_LookupError
  | _ + 2 => F.excBase_RuntimeError
theorem famP (b : Nat) (self : Value) : refuseLoop self "__setattr__" (bmF b) = pure () := match b with
  | 0 => F.store_ValueError.passes self
  | 1 => F.store_LookupError.passes self
  | _ + 2 => F.store_RuntimeError.passes self
theorem famO (b : Nat) : (bmF b).contains (.type "object") = true := match b with
  | 0 => by decide +kernel
  | 1 => by decide +kernel
  | _ + 2 => by show List.contains [Value.type "RuntimeError", .type "Exception", .type "BaseException", .type "object"] (.type "object") = true; decide +kernel
def xclsB (K : W.Frag) (C : Addr) (b : Nat) : Bool := (match clsIn K C with
  | some cd => cd.hasDict && (match cd.mro with
    | .ref C' :: bm => C' == C && excTail (bmF b) bm
    | _ => false)
  | none => false) && excInitIn K C (bmF b) (nwF b) && decide (findIn K (.ref C) "__setattr__" = some (some (.builtin "object.__setattr__")))
theorem xcls_of {K : W.Frag} {C : Addr} {b : Nat} (h : xclsB K C b = true) : XCls K C := by
  simp only [xclsB, Bool.and_eq_true, decide_eq_true_eq] at h
  obtain ⟨⟨h1, h2⟩, h3⟩ := h
  refine ⟨?_, ⟨_, _, _, _, famF b, h2⟩, h3⟩
  split at h1
  · rename_i cd e
    simp only [Bool.and_eq_true] at h1
    obtain ⟨hd, hm⟩ := h1
    split at hm
    · rename_i C' bm em
      simp only [Bool.and_eq_true, beq_iff_eq] at hm
      obtain ⟨rfl, ht⟩ := hm
      exact ⟨_, cd, e, ⟨bm, em, ht⟩, hd, famO b, famP b⟩
    · cases hm
  · cases h1
def xB (K : W.Frag) (C fI : Addr) (b : Nat) (ps : List Str) : Bool := xclsB K C b && xisB K C && keepIn K (.ref C) && decide (findIn K (.ref C) "__init__" = some (some (.ref fI))) && decide (typeIn K (.ref fI) = some (.type "function")) && ps.all fun f => decide (findIn K (.ref C) f = some none)
/-- self.f = f, read from the text -/
def fldOf : Stmt → Fld
  | .Assign [.Attribute (.Name _ p1) f p2] (.Name _ p3) p4 => (f, p1, p2, p3, p4)
  | _ => ("", ⟨0, 0, 0, 0⟩, ⟨0, 0, 0, 0⟩, ⟨0, 0, 0, 0⟩, ⟨0, 0, 0, 0⟩)
/-- an __init__ that stores its parameters ps; ks: their names at a call by name, p: where each stands there -/
structure Shp (st : Stmt) (ps ks : List Str) (p : List Nat) : Prop where
  body : (defBody st).map (fun s => stOf (fldOf s)) = defBody st
  nms : (defBody st).map (fun s => (fldOf s).1) = ps
  kind : (defScope st).kind = .function
  co : (defScope st).isCoroutine = false
  gen : (defScope st).isGenerator = false
  loc : (ps.all fun z => (defScope st).names.lookup z == some .local) = true
  slf : (defScope st).names.lookup ("self" : Str) = some .local
  nd : ps.Nodup
  ns : ("self" : Str) ∉ ps
  dbg : (ps.all fun z => z != ("__debug__" : Str)) = true
  len : ps.length ≤ 800
  ne : ps ≠ []
  pos : ∀ (name qual : Str) (kV doc pm cdv ct : Value) (an : Option Addr) (x : Value) (us : List Value), us.length = ps.length → bindArgs (fnOf name qual (defArgs st) (defBody st) (defScope st) .none kV doc pm an cdv ct) ⟨x :: us, []⟩ = pure ((("self" : Str), x) :: ps.zip us)
  kwd : ∀ (name qual : Str) (kV doc pm cdv ct : Value) (an : Option Addr) (x : Value) (ws : List Value), ws.length = ks.length → bindArgs (fnOf name qual (defArgs st) (defBody st) (defScope st) .none kV doc pm an cdv ct) ⟨[x], ks.zip ws⟩ = pure ((("self" : Str), x) :: ps.zip (p.map fun i => ws.getD i .none))
  pl : p.length = ps.length
def XT (K : W.Frag) (C : Addr) (b : Nat) (ps : List Str) (qual : Str) (st : Stmt) : Prop :=
  ∃ (fI : Addr) (oc kV doc pm cdv ct : Value) (an od : Option Addr) (osl : Array (Option Value)), K.lookup fI = some ⟨oc, od, .func (fnOf "__init__" qual (defArgs st) (defBody st) (defScope st) .none kV doc pm an cdv ct), osl⟩ ∧ codeIn K cdv qual = true ∧ xB K C fI b ps = true
theorem xt_mk {K : W.Frag} {C : Addr} {b : Nat} {ps : List Str} {qual : Str} {st : Stmt} {fI : Addr} {oc kV doc pm cdv ct : Value} {an od : Option Addr} {osl : Array (Option Value)} (h0 : findIn K (.ref C) "__init__" = some (some (.ref fI)))
    (h1 : K.lookup fI = some ⟨oc, od, .func (fnOf "__init__" qual (defArgs st) (defBody st) (defScope st) .none kV doc pm an cdv ct), osl⟩) (h2 : codeIn K cdv qual = true) (h3 : xB K C fI b ps = true) : XT K C b ps qual st := ⟨_, _, _, _, _, _, _, _, _, _, h1, h2, h3⟩
theorem bindL_at {kindOf : Str → Option NameKind} {f : Str} : ∀ {binds : List (Str × Value)} {m : Str → Option Value}, (∀ z ∈ binds, kindOf z.1 = some .local) → (binds.map (·.1)).Nodup → PySem.bindL kindOf binds m f = match binds.lookup f with
    | some v => some v
    | none => m f
  | [], _, _, _ => rfl
  | (n, v) :: r, m, hk, nd => by
    have nd' := List.nodup_cons.mp nd
    show PySem.bindL kindOf r (if kindOf n = some .local then fun y => if y = n then some v else m y else m) f = _
    rw [if_pos (hk _ List.mem_cons_self), bindL_at (fun z hz => hk z (List.mem_cons_of_mem _ hz)) nd'.2, List.lookup_cons]
    by_cases e : f = n
    · subst e
      have z : r.lookup f = none := by
        cases q : r.lookup f with
        | none => rfl
        | some u =>
          exfalso
          apply nd'.1
          clear nd nd' hk
          induction r with
          | nil => cases q
          | cons y r ih =>
            rw [List.lookup_cons] at q
            cases e : f == y.1 with
            | true =>
              have e' : f = y.1 := by simpa using e
              rw [e', List.map_cons]
              exact List.mem_cons_self
            | false =>
              rw [e] at q
              exact List.mem_cons_of_mem _ (ih q)
      rw [z]
      simp
    · have e' : (f == n) = false := by simpa using e
      rw [e']
      simp only [if_neg e]
theorem map_zip1 {β : Type} : ∀ (l : List Str) (b : List β), b.length = l.length → (l.zip b).map (·.1) = l
  | [], _, _ => rfl
  | _ :: _, [], h => by simp at h
  | p :: l, v :: b, h => by
    rw [List.zip_cons_cons, List.map_cons, map_zip1 l b (by simpa using h)]
theorem vals_getD : ∀ {zs : List V} {ws : List Value}, Vals zs ws → ∀ i, RelV (zs.getD i .non) (ws.getD i .none)
  | _, _, .nil, i => by simp; rfl
  | _, _, .cons h r, 0 => by simpa using h
  | _, _, .cons h r, i + 1 => by simpa using vals_getD r i
theorem reps_getD {T : Tab} {Z : Wd} : ∀ {es : List D} {zs : List V}, Reps T Z es zs → ∀ i, Rep T Z (es.getD i .non) (zs.getD i .non)
  | _, _, .nil, i => by simp; exact .non
  | _, _, .cons h r, 0 => by simpa using h
  | _, _, .cons h r, i + 1 => by simpa using reps_getD r i
theorem vals_map {zs : List V} {ws : List Value} (h : Vals zs ws) : ∀ p : List Nat, Vals (p.map fun i => zs.getD i .non) (p.map fun i => ws.getD i .none)
  | [] => .nil
  | i :: p => .cons (vals_getD h i) (vals_map h p)
theorem reps_map {T : Tab} {Z : Wd} {es : List D} {zs : List V} (h : Reps T Z es zs) : ∀ p : List Nat, Reps T Z (p.map fun i => es.getD i .non) (p.map fun i => zs.getD i .non)
  | [] => .nil
  | i :: p => .cons (reps_getD h i) (reps_map h p)
section
variable {K : W.Frag} {cl : Nat → Addr} {n b : Nat} {ps ks : List Str} {p : List Nat} {qual : Str} {st : Stmt}
theorem Shp.bl (S : Shp st ps ks p) (x : Addr) (bs : List Value) (hl : bs.length = ps.length) : PySem.bindL (fun z => (defScope st).names.lookup z) ((("self" : Str), .ref x) :: ps.zip bs) (fun _ => none) "self" = some (.ref x) ∧
    ∀ f ∈ ps, PySem.bindL (fun z => (defScope st).names.lookup z) ((("self" : Str), .ref x) :: ps.zip bs) (fun _ => none) f = (ps.zip bs).lookup f := by
  have hk : ∀ z ∈ (("self" : Str), Value.ref x) :: ps.zip bs, (fun z => (defScope st).names.lookup z) z.1 = some .local := fun z hz => by
    rcases List.mem_cons.mp hz with e | hz
    · rw [e]
      exact S.slf
    · have q := S.loc
      rw [List.all_eq_true] at q
      have := q _ (List.of_mem_zip (a := z.1) (b := z.2) hz).1
      simpa using this
  have nd : ((("self" : Str), Value.ref x) :: ps.zip bs |>.map (·.1)).Nodup := by
    rw [List.map_cons, map_zip1 ps bs hl]
    exact List.nodup_cons.mpr ⟨S.ns, S.nd⟩
  refine ⟨?_, fun f hf => ?_⟩
  · rw [bindL_at hk nd, List.lookup_cons]
    simp
  · rw [bindL_at hk nd, List.lookup_cons]
    have e : (f == ("self" : Str)) = false := by
      rw [beq_eq_false_iff_ne]
      exact fun z => S.ns (by rw [← z]; exact hf)
    rw [e]
    dsimp only
    cases (ps.zip bs).lookup f <;> rfl
theorem xB_of {C fI : Addr} (h : xB K C fI b ps = true) : XCls K C ∧ XIs K C ∧ keepIn K (.ref C) = true ∧ findIn K (.ref C) "__init__" = some (some (.ref fI)) ∧ typeIn K (.ref fI) = some (.type "function") ∧ ∀ f ∈ ps, findIn K (.ref C) f = some none := by
  simp only [xB, Bool.and_eq_true, decide_eq_true_eq, List.all_eq_true] at h
  obtain ⟨⟨⟨⟨⟨h1, h2⟩, h3⟩, h4⟩, h5⟩, h6⟩ := h
  exact ⟨xcls_of h1, xis_of h2, h3, h4, h5, h6⟩
theorem XT.xp (S : Shp st ps ks p) (h : XT K (cl n) b ps qual st) : XMk K cl n ps [] ps.length gP := by
  obtain ⟨fI, oc, kV, doc, pm, cdv, ct, an, od, osl, lk, hcd, hx⟩ := h
  obtain ⟨T, _, kp, iC, tI, hno⟩ := xB_of hx
  cases hb : defBody st with
  | nil => exact absurd (by rw [← S.nms, hb]; rfl) S.ne
  | cons s0 ss =>
    have e : defBody st = (fldOf s0 :: ss.map fldOf).map stOf := by
      rw [← S.body, hb, List.map_cons, List.map_cons, List.map_map]
      rfl
    have lk' := lk
    rw [e] at lk'
    refine xmk (y := fldOf s0) (fl := ss.map fldOf) (gv := fun us _ => us) (gV := fun vs _ => vs) T kp iC tI lk' hcd S.kind S.co S.gen ?_ S.nd ?_ (by have := S.len; omega) ?_ S.loc S.slf S.bl S.dbg hno (fun vs zs us ws h1 h2 h3 h4 => h1) fun T Z ds es vs zs h1 h2 h3 h4 => h1
    · rw [← S.nms, hb, List.map_cons, List.map_cons, List.map_map]
      rfl
    · have := S.len
      rw [← S.nms, hb] at this
      simp at this ⊢
      omega
    · intro s x us ws h1 h2
      refine ⟨?_, h1⟩
      have ew : ws = [] := List.length_eq_zero_iff.mp h2
      subst ew
      rw [← e]
      exact .of_eq (S.pos "__init__" qual kV doc pm cdv ct an (.ref x) us h1)
theorem XT.xk (S : Shp st ps ks p) (h : XT K (cl n) b ps qual st) : XMk K cl n ps ks 0 (gK p) := by
  obtain ⟨fI, oc, kV, doc, pm, cdv, ct, an, od, osl, lk, hcd, hx⟩ := h
  obtain ⟨T, _, kp, iC, tI, hno⟩ := xB_of hx
  cases hb : defBody st with
  | nil => exact absurd (by rw [← S.nms, hb]; rfl) S.ne
  | cons s0 ss =>
    have e : defBody st = (fldOf s0 :: ss.map fldOf).map stOf := by
      rw [← S.body, hb, List.map_cons, List.map_cons, List.map_map]
      rfl
    have lk' := lk
    rw [e] at lk'
    refine xmk (y := fldOf s0) (fl := ss.map fldOf) (gv := fun _ ws => p.map fun i => ws.getD i .none) (gV := fun _ zs => p.map fun i => zs.getD i .non) T kp iC tI lk' hcd S.kind S.co S.gen ?_ S.nd ?_ (by omega) ?_ S.loc S.slf S.bl S.dbg hno (fun vs zs us ws h1 h2 h3 h4 => vals_map h2 p) fun T Z ds es vs zs h1 h2 h3 h4 => reps_map h2 p
    · rw [← S.nms, hb, List.map_cons, List.map_cons, List.map_map]
      rfl
    · have := S.len
      rw [← S.nms, hb] at this
      simp at this ⊢
      omega
    · intro s x us ws h1 h2
      refine ⟨?_, by rw [List.length_map]; exact S.pl⟩
      have eu : us = [] := List.length_eq_zero_iff.mp h1
      subst eu
      rw [← e]
      exact .of_eq (S.kwd "__init__" qual kV doc pm cdv ct an (.ref x) ws h2)
theorem XT.is (h : XT K (cl n) b ps qual st) : XIs K (cl n) ∧ ∀ f ∈ ps, findIn K (.ref (cl n)) f = some none := by
  obtain ⟨fI, oc, kV, doc, pm, cdv, ct, an, od, osl, lk, hcd, hx⟩ := h
  obtain ⟨_, z, _, _, _, hno⟩ := xB_of hx
  exact ⟨z, hno⟩
/-- a class without __init__ -/
def x0B (K : W.Frag) (C : Addr) (b : Nat) : Bool := xisB K C && keepIn K (.ref C) && excInitIn K C (bmF b) (nwF b) && decide (findIn K (.ref C) "__init__" = some (some (.builtin (inF b))))
theorem x0_of {C : Addr} (h : x0B K C b = true) : XMk0 K C ∧ XIs K C := by
  simp only [x0B, Bool.and_eq_true, decide_eq_true_eq] at h
  obtain ⟨⟨⟨h1, h2⟩, h3⟩, h4⟩ := h
  exact ⟨⟨h2, _, _, _, _, famF b, h3, h4⟩, xis_of h1⟩
end
/-! ### isinstance by the chains alone -/
def mroB (K : W.Frag) (C : Addr) (l : List Value) : Bool := match clsIn K C with
  | some cd => decide (cd.mro = l)
  | none => false
def clsOkB (K : W.Frag) (C : Addr) : Bool := (clsIn K C).isSome && typeIn K (.ref C) == some (.type "type")
theorem sub_of {K : W.Frag} {C : Addr} {a : Value} {l : List Value} (h : mroB K C (a :: l) = true) (v : Value) : subIn K (.ref C) v = some ((a :: l).contains v) := by
  unfold mroB at h
  show mroIn K C v = _
  unfold mroIn
  split at h
  · rename_i cd e
    rw [e, Option.bind_some, of_decide_eq_true h]
    rfl
  · cases h
theorem kit_own {K : W.Frag} {C C' B : Addr} {b : Nat} (h : mroB K C (.ref C :: .ref B :: bmF b) = true) (h' : clsOkB K C' = true) : kitOne K (.ref C) (.ref C') = some (decide (C = C') || decide (B = C')) := by
  unfold kitOne
  have nt : (bmF b).contains (.ref C') = false := match b with
    | 0 => rfl
    | 1 => rfl
    | _ + 2 => rfl
  by_cases e : C = C'
  · subst e
    simp
  · have e1 : (Value.ref C == Value.ref C') = false := by
      rw [beq_eq_false_iff_ne]
      exact fun z => e (by injection z)
    rw [e1]
    simp only [Bool.false_eq_true, if_false]
    show (if ((clsIn K C').isSome && typeIn K (.ref C') == some (.type "type")) = true then subIn K (.ref C) (.ref C') else none) = _
    have h2 : ((clsIn K C').isSome && typeIn K (.ref C') == some (.type "type")) = true := h'
    rw [if_pos h2, sub_of h, List.contains_cons, List.contains_cons, nt]
    have e2 : (Value.ref C' == Value.ref C) = false := by
      rw [beq_eq_false_iff_ne]
      exact fun z => e (by injection z with z; exact z.symm)
    rw [e2, decide_eq_false e]
    by_cases e3 : B = C'
    · subst e3
      simp
    · have e4 : (Value.ref C' == Value.ref B) = false := by
        rw [beq_eq_false_iff_ne]
        exact fun z => e3 (by injection z with z; exact z.symm)
      rw [e4, decide_eq_false e3]
      rfl
theorem kit_bas {K : W.Frag} {C B : Addr} {b : Nat} {n : String} (h : mroB K C (.ref C :: .ref B :: bmF b) = true) (hn : kitMeta n = true) : kitOne K (.ref C) (.type n) = some ((bmF b).contains (.type n)) := by
  unfold kitOne
  have e1 : (Value.ref C == Value.type n) = false := rfl
  rw [e1]
  simp only [Bool.false_eq_true, if_false]
  show (if kitMeta n = true then subIn K (.ref C) (.type n) else none) = _
  rw [if_pos hn, sub_of h, List.contains_cons, List.contains_cons]
  rfl
end DL

set_option Elab.async false
set_option linter.all false
set_option autoImplicit false
set_option maxRecDepth 100000
/-! DL, part q: the laws' draws. -/
namespace DL
open PySem L2

/-! ### what a text makes of data, step by step -/
section
variable {ρ ρ1 ρ2 : Env} {μ μ1 μ2 μ3 : Store} {x y d : D} {xs ds zs : List D} {δ δa δb : DenE} {δs δk : DenA} {t t' : DenT} {b : Bool} {o : Op2} {on : OpN} {m : Mir} {sa sb : DenS} {out : Out} {r : Res D}
theorem ev_var {i : Nat} (h : ρ[i]? = some (some d) := by rfl) : dVar i ρ μ = .ok d μ := by
  unfold dVar
  rw [h]
theorem ev_c : dC d ρ μ = .ok d μ := rfl
theorem ev_bin (h1 : δa ρ μ = .ok x μ1) (h2 : δb ρ μ1 = .ok y μ2) (h3 : o x y μ2 = some d) : dBin o δa δb ρ μ = .ok d μ2 := by
  simp only [dBin, h1, Res.bind, h2, h3, ofO]
theorem ev_nil : dNil ρ μ = .ok [] μ := rfl
theorem ev_cons (h1 : δ ρ μ = .ok x μ1) (h2 : δs ρ μ1 = .ok xs μ2) : dCons δ δs ρ μ = .ok (x :: xs) μ2 := by
  simp only [dCons, h1, Res.bind, h2]
theorem ev_blt (h1 : δs ρ μ = .ok xs μ1) (h3 : on xs μ1 = some d) : dBlt on δs ρ μ = .ok d μ1 := by
  simp only [dBlt, h1, Res.bind, h3, ofO]
theorem ev_un {u : D → Option D} (h1 : δ ρ μ = .ok x μ1) (h3 : u x = some d) : dUn u δ ρ μ = .ok d μ1 := by
  simp only [dUn, h1, Res.bind, h3, ofO]
theorem ev_lst (h1 : δs ρ μ = .ok xs μ1) (h2 : xs.length ≤ sizeLine := by first | decide | simp [sizeLine_eq]) : dLst δs ρ μ = .ok (.lst xs) μ1 := by
  simp only [dLst, h1, Res.bind, kLst, if_pos h2]
theorem ev_tup (h1 : δs ρ μ = .ok xs μ1) (h2 : xs.length ≤ sizeLine := by first | decide | simp [sizeLine_eq]) : dTup δs ρ μ = .ok (.tup xs) μ1 := by
  simp only [dTup, h1, Res.bind, kTup, if_pos h2]
theorem ev_lstM (h1 : δs ρ μ = .ok xs μ1) (h2 : xs.length ≤ sizeLine := by first | decide | simp [sizeLine_eq]) : dLstM δs ρ μ = .ok (.loc μ1.length) (μ1 ++ [some (.lst xs)]) := by
  simp only [dLstM, h1, Res.bind, kLstM, if_pos h2]
theorem ev_call {np : Nat} (h1 : δs ρ μ = .ok ds μ1) (h2 : m ds μ1 = r) (hl : ds.length = np := by rfl) : dCallK np 0 (fun ds _ => ds) m δs dNil ρ μ = r := by
  simp only [dCallK, h1, Res.bind, dNil, hl, List.length_nil, and_self, if_true, h2]
theorem ev_ifT (h : t ρ μ = .ok true μ1) (h1 : δa ρ μ1 = r) : dIf t δa δb ρ μ = r := by
  simp only [dIf, h, Res.bind, if_true, h1]
theorem ev_ifF (h : t ρ μ = .ok false μ1) (h1 : δb ρ μ1 = r) : dIf t δa δb ρ μ = r := by
  simp only [dIf, h, Res.bind, Bool.false_eq_true, if_false, h1]
theorem ev_isB (h : δ ρ μ = .ok (.bl b) μ1) : dIsB δ ρ μ = .ok b μ1 := by
  simp only [dIsB, h, Res.bind]
theorem ev_tru (h : δ ρ μ = .ok d μ1) (h2 : truD μ1 d = some b) : dTru δ ρ μ = .ok b μ1 := by
  simp only [dTru, h, Res.bind, h2, ofO]
theorem ev_notT (h : t ρ μ = .ok b μ1) : dNotT t ρ μ = .ok (!b) μ1 := by
  simp only [dNotT, h, Res.bind]
theorem ev_orF (h : t ρ μ = .ok false μ1) (h2 : t' ρ μ1 = .ok b μ2) : dOrT t t' ρ μ = .ok b μ2 := by
  simp only [dOrT, h, Res.bind, Bool.false_eq_true, if_false, h2]
theorem ev_orT (h : t ρ μ = .ok true μ1) : dOrT t t' ρ μ = .ok true μ1 := by
  simp only [dOrT, h, Res.bind, if_true]
theorem ev_andT (h : t ρ μ = .ok true μ1) (h2 : t' ρ μ1 = .ok b μ2) : dAndT t t' ρ μ = .ok b μ2 := by
  simp only [dAndT, h, Res.bind, if_true, h2]
theorem ev_andF (h : t ρ μ = .ok false μ1) : dAndT t t' ρ μ = .ok false μ1 := by
  simp only [dAndT, h, Res.bind, Bool.false_eq_true, if_false]
theorem ev_andV (h : δa ρ μ = .ok (.bl true) μ1) (h2 : δb ρ μ1 = r) : dAndV δa δb ρ μ = r := by
  simp only [dAndV, h, Res.bind, if_true, h2]
theorem sv_seq (h1 : sa ρ μ = .nx ρ1 μ1) (h2 : sb ρ1 μ1 = out) : sSeq sa sb ρ μ = out := by
  simp only [sSeq, h1, h2]
theorem sv_ret (h : δ ρ μ = .ok d μ1) : sRet δ ρ μ = .rt d μ1 := by
  simp only [sRet, h, bindS]
theorem sv_set {i : Nat} (h : δ ρ μ = .ok d μ1) : sSet i δ ρ μ = .nx (ρ.set i (some d)) μ1 := by
  simp only [sSet, h, bindS]
theorem sv_ifT (h : t ρ μ = .ok true μ1) (h1 : sa ρ μ1 = out) : sIf t sa sb ρ μ = out := by
  simp only [sIf, h, bindS, if_true, h1]
theorem sv_ifF (h : t ρ μ = .ok false μ1) (h1 : sb ρ μ1 = out) : sIf t sa sb ρ μ = out := by
  simp only [sIf, h, bindS, Bool.false_eq_true, if_false, h1]
theorem sv_next : sNext ρ μ = .nx ρ μ := rfl
theorem sv_retE (h1 : sa ρ μ = .rt d μ1) : sSeq sa sb ρ μ = .rt d μ1 := by
  simp only [sSeq, h1]
theorem sv_par2 {i j : Nat} (h : δs ρ μ = .ok [x, y] μ1) : sPar2 i j δs ρ μ = .nx ((ρ.set i (some x)).set j (some y)) μ1 := by
  simp only [sPar2, h, bindS]
theorem sv_par3 {i j l : Nat} (h : δs ρ μ = .ok [x, y, d] μ1) : sPar3 i j l δs ρ μ = .nx (((ρ.set i (some x)).set j (some y)).set l (some d)) μ1 := by
  simp only [sPar3, h, bindS]
theorem sv_asg {γ : DenG} (h : δ ρ μ = .ok d μ1) (h2 : γ d ρ μ1 = .ok ρ1 μ2) : sAsg δ γ ρ μ = .nx ρ1 μ2 := by
  simp only [sAsg, h, bindS, h2]
theorem sv_for {it : DenI} {γ : DenG} {items : List D} (h : it ρ μ = .ok items μ1) (h2 : forL γ sa items ρ μ1 = out) : sFor it γ sa ρ μ = out := by
  simp only [sFor, h, bindS, h2]
theorem ev_lc {own : List Nat} {it : DenI} {γ : DenV} {τ : DenT} {items : List D} (h : it ρ μ = .ok items μ1) (h2 : lcL γ τ δ (wipeD ρ own) items [] μ1 = .ok xs μ2) : dLc own it γ τ δ ρ μ = .ok (.lst xs) μ2 := by
  simp only [dLc, h, Res.bind, h2, kLs]
theorem run_rt {n : Nat} (h : sa (startD n ds) μ = .rt d μ1) : runBody n sa ds μ = .ok d μ1 := by
  simp only [runBody, h]
theorem run_nx {n : Nat} (h : sa (startD n ds) μ = .nx ρ1 μ1) : runBody n sa ds μ = .ok .non μ1 := by
  simp only [runBody, h]
end
theorem add_int (i j : Int) (μ : Store) : addD (.int i) (.int j) μ = some (.int (i + j)) := rfl
theorem sub_int (i j : Int) (μ : Store) : subI (.int i) (.int j) μ = some (.int (i - j)) := rfl
theorem mul_int {i j : Int} (h : mulOk i j = true) (μ : Store) : mulD (.int i) (.int j) μ = some (.int (i * j)) := by
  simp only [mulD, orO, mulI, int2, if_pos h]
theorem mod_int {i j : Int} (h : 0 < j) (μ : Store) : modI (.int i) (.int j) μ = some (.int (i % j)) := by
  simp only [modI, int2, decide_eq_true h, if_true]
theorem div_int {i j : Int} (h : 0 < j ∧ j.natAbs.log2 < 9000) (μ : Store) : divI (.int i) (.int j) μ = some (.int (i / j)) := by
  simp only [divI, int2, decide_eq_true h, if_true]
/-- two ints in a list of the store -/
def At2 (μ : Store) (n : Nat) (x y : Int) : Prop := μ[n]? = some (some (.lst [.int x, .int y]))
theorem At2.lt {μ : Store} {n : Nat} {x y : Int} (h : At2 μ n x y) : n < μ.length := (List.getElem?_eq_some_iff.mp h).1
theorem At2.set {μ : Store} {n : Nat} (h : n < μ.length) (x y : Int) : At2 (μ.set n (some (.lst [.int x, .int y]))) n x y := List.getElem?_set_self h
def drawD (m1 a1 q1 q2 dv : Int) : DenS := sSeq (sIf (dIsB (dBin gtI (dBin ixD (dVar 0) (dC (.int 0))) (dC (.int 0)))) (sSeq (sAsg (dBlt divmodB (dCons (dBin ixD (dVar 0) (dC (.int 0))) (dCons (dVar 1) (dNil)))) (gTupD 2 (gsCons (gSubD (dVar 0) (dC (.int 0))) (gsCons (gSet 2) (gsNil))))) (sRet (dVar 2))) (sNext))
  (sSeq (sAsg (dBin modI (dBlt intB (dCons (dBin addD (dBin mulD (dBin ixD (dVar 0) (dC (.int 1))) (dC (.int m1))) (dC (.int a1))) (dNil))) (dC (.int q1))) (gSubD (dVar 0) (dC (.int 1)))) (sRet (dBin modI (dBlt intB (dCons (dBin divI (dBin modI (dBlt intB (dCons (dBin mulD (dBin ixD (dVar 0) (dC (.int 1))) (dBin ixD (dVar 0) (dC (.int 1)))) (dNil))) (dC (.int q2))) (dC (.int dv))) (dNil))) (dVar 1))))
theorem ix0 (x y : Int) : L2.atI [D.int x, D.int y] 0 = some (.int x) := rfl
theorem ix1 (x y : Int) : L2.atI [D.int x, D.int y] 1 = some (.int y) := rfl
theorem mulOk_lt {i j : Int} (h1 : 0 ≤ i) (h2 : i < 2 ^ 64) : mulOk i j = true := by
  unfold mulOk
  rw [decide_eq_true (.inl ⟨by omega, h2⟩)]
  rfl
structure DrawC (m1 a1 q1 q2 dv : Int) : Prop where
  q1 : 0 < q1 ∧ q1 < 2 ^ 60
  q2 : 0 < q2
  dv : 0 < dv ∧ dv.natAbs.log2 < 9000
theorem draw_ok {m1 a1 q1 q2 dv : Int} (C : DrawC m1 a1 q1 q2 dv) {μ : Store} {n : Nat} {x y k : Int} (h : At2 μ n x y) (hx : 0 ≤ x) (hy : 0 ≤ y ∧ y < 2 ^ 60) (hk : 0 < k ∧ k < 1073741824) :
    ∃ d x' y', runBody 3 (drawD m1 a1 q1 q2 dv) [.loc n, .int k] μ = .ok (.int d) (μ.set n (some (.lst [.int x', .int y']))) ∧ 0 ≤ d ∧ d < k ∧ 0 ≤ x' ∧ 0 ≤ y' ∧ y' < 2 ^ 60 := by
  have hn := h.lt
  have e0 : ∀ {u v : Int} {μ : Store}, At2 μ n u v → dBin ixD (dVar 0) (dC (.int 0)) [some (.loc n), some (.int k), none] μ = .ok (.int u) μ := fun {u v μ} h => by
    simp only [dBin, dVar, dC, Res.bind, ixD, asS, List.getElem?_cons_zero, h, ix0, ofO]
    rw [show μ[n]? = some (some (.lst [.int u, .int v])) from h]
    rfl
  have e1 : ∀ {u v : Int} {μ : Store}, At2 μ n u v → dBin ixD (dVar 0) (dC (.int 1)) [some (.loc n), some (.int k), none] μ = .ok (.int v) μ := fun {u v μ} h => by
    simp only [dBin, dVar, dC, Res.bind, ixD, asS, List.getElem?_cons_zero, h, ix0, ofO]
    rw [show μ[n]? = some (some (.lst [.int u, .int v])) from h]
    rfl
  have eL : ∀ {u v : Int} {μ : Store}, At2 μ n u v → asL μ (.loc n) = some [.int u, .int v] := fun {u v μ} h => by
    simp only [asL]
    rw [show μ[n]? = some (some (.lst [.int u, .int v])) from h]
  have es : startD 3 [.loc n, .int k] = [some (.loc n), some (.int k), none] := rfl
  by_cases hp : 0 < x
  · refine ⟨x % k, x / k, y, ?_, Int.emod_nonneg _ (by omega), Int.emod_lt_of_pos _ hk.1, Int.ediv_nonneg hx (by omega), hy⟩
    unfold runBody drawD
    rw [es]
    simp only [sSeq, sIf, dIsB]
    have t : dBin gtI (dBin ixD (dVar 0) (dC (.int 0))) (dC (.int 0)) [some (.loc n), some (.int k), none] μ = .ok (.bl true) μ := by
      show (dBin ixD (dVar 0) (dC (.int 0)) [some (.loc n), some (.int k), none] μ).bind _ = _
      rw [e0 h]
      simp [Res.bind, dC, gtI, int2, ofO, hp]
    rw [t]
    simp only [Res.bind, bindS, if_true, sAsg]
    have d : dBlt divmodB (dCons (dBin ixD (dVar 0) (dC (.int 0))) (dCons (dVar 1) dNil)) [some (.loc n), some (.int k), none] μ = .ok (.tup [.int (x / k), .int (x % k)]) μ := by
      unfold dBlt
      show Res.bind ((dBin ixD (dVar 0) (dC (.int 0)) [some (.loc n), some (.int k), none] μ).bind _) _ = _
      rw [e0 h]
      simp [Res.bind, dCons, dVar, dNil, divmodB, ofO, hk]
    rw [d]
    simp only [bindS, gTupD, gsCons, gSubD, gSet, gsNil, dVar, dC, Res.bind, List.length_cons, List.length_nil, if_true, List.getElem?_cons_zero, setD, eL h]
    rfl
  · have x0 : x = 0 := by omega
    subst x0
    have hq := C.q1
    have hy1 : 0 ≤ (y * m1 + a1) % q1 ∧ (y * m1 + a1) % q1 < 2 ^ 60 := ⟨Int.emod_nonneg _ (by omega), Int.lt_trans (Int.emod_lt_of_pos _ hq.1) hq.2⟩
    obtain ⟨y1, ey⟩ : ∃ y1, y1 = (y * m1 + a1) % q1 := ⟨_, rfl⟩
    rw [← ey] at hy1
    refine ⟨y1 * y1 % q2 / dv % k, 0, y1, ?_, Int.emod_nonneg _ (by omega), Int.emod_lt_of_pos _ hk.1, Int.le_refl _, hy1⟩
    unfold runBody drawD
    rw [es]
    simp only [sSeq, sIf, dIsB]
    have t : dBin gtI (dBin ixD (dVar 0) (dC (.int 0))) (dC (.int 0)) [some (.loc n), some (.int k), none] μ = .ok (.bl false) μ := by
      show (dBin ixD (dVar 0) (dC (.int 0)) [some (.loc n), some (.int k), none] μ).bind _ = _
      rw [e0 h]
      simp [Res.bind, dC, gtI, int2, ofO]
    rw [t]
    simp only [Res.bind, bindS, if_false, sAsg, sNext, Bool.false_eq_true]
    have d : dBin modI (dBlt intB (dCons (dBin addD (dBin mulD (dBin ixD (dVar 0) (dC (.int 1))) (dC (.int m1))) (dC (.int a1))) dNil)) (dC (.int q1)) [some (.loc n), some (.int k), none] μ = .ok (.int y1) μ := by
      have m : dBin mulD (dBin ixD (dVar 0) (dC (.int 1))) (dC (.int m1)) [some (.loc n), some (.int k), none] μ = .ok (.int (y * m1)) μ := by
        show (dBin ixD (dVar 0) (dC (.int 1)) [some (.loc n), some (.int k), none] μ).bind _ = _
        rw [e1 h]
        simp [Res.bind, dC, mulD, orO, mulI, int2, ofO, mulOk_lt hy.1 (show y < 2 ^ 64 by omega)]
      have p : dBin addD (dBin mulD (dBin ixD (dVar 0) (dC (.int 1))) (dC (.int m1))) (dC (.int a1)) [some (.loc n), some (.int k), none] μ = .ok (.int (y * m1 + a1)) μ := by
        show (dBin mulD (dBin ixD (dVar 0) (dC (.int 1))) (dC (.int m1)) [some (.loc n), some (.int k), none] μ).bind _ = _
        rw [m]
        rfl
      show Res.bind (Res.bind (Res.bind (dBin addD (dBin mulD (dBin ixD (dVar 0) (dC (.int 1))) (dC (.int m1))) (dC (.int a1)) [some (.loc n), some (.int k), none] μ) _) _) _ = _
      rw [p]
      simp [Res.bind, dC, dNil, intB, modI, int2, ofO, hq.1, ey]
    rw [d]
    simp only [bindS, gSubD, dVar, dC, Res.bind, List.getElem?_cons_zero, setD, eL h]
    have ei : ixN [D.int 0, D.int y].length 1 = some 1 := rfl
    simp only [ei, Option.map_some, List.set_cons_succ, List.set_cons_zero]
    have A := At2.set hn 0 y1
    have r : dBin modI (dBlt intB (dCons (dBin divI (dBin modI (dBlt intB (dCons (dBin mulD (dBin ixD (dVar 0) (dC (.int 1))) (dBin ixD (dVar 0) (dC (.int 1)))) dNil)) (dC (.int q2))) (dC (.int dv))) dNil)) (dVar 1) [some (.loc n), some (.int k), none] (μ.set n (some (.lst [.int 0, .int y1]))) = .ok (.int (y1 * y1 % q2 / dv % k)) (μ.set n (some (.lst [.int 0, .int y1]))) := by
      exact ev_bin (ev_blt (ev_cons (ev_bin (ev_bin (ev_blt (ev_cons (ev_bin (e1 A) (e1 A) (mul_int (mulOk_lt hy1.1 (by omega)) _)) ev_nil) rfl) ev_c (mod_int C.q2 _)) ev_c (div_int C.dv _)) ev_nil) rfl) ev_var (mod_int hk.1 _)
    unfold sRet
    rw [r]
    rfl
def rngD : DenS := sSeq (sSet 2 (dIf (dIsB (dBin ltI (dVar 1) (dBlt lenB (dCons (dVar 0) (dNil))))) (dBlt absB (dCons (dBin ixD (dVar 0) (dVar 1)) (dNil))) (dBin addD (dBin mulD (dC (.int 11)) (dVar 1)) (dC (.int 4)))))
  (sRet (dLstM (dCons (dBlt max2B (dCons (dC (.int 0)) (dCons (dBin subI (dVar 2) (dBin powI (dC (.int 10)) (dC (.int 18)))) (dNil)))) (dCons (dBin addD (dBin modI (dBlt intB (dCons (dBin addD (dBin addD (dBin mulD (dBin modI (dBlt intB (dCons (dVar 2) (dNil))) (dC (.int 2147483543))) (dC (.int 39373))) (dBin mulD (dC (.int 52361)) (dVar 1))) (dC (.int 29))) (dNil))) (dC (.int 2147483629))) (dC (.int 1))) (dNil)))))
theorem rng_ok {ns : List Int} {k : Nat} (hk : k < 1000) (μ : Store) : ∃ x y, runBody 3 rngD [.scr (ns.map D.int), .int (k : Int)] μ = .ok (.loc μ.length) (μ ++ [some (.lst [.int x, .int y])]) ∧ 0 ≤ x ∧ 0 ≤ y ∧ y < 2 ^ 60 := by
  have es : startD 3 [.scr (ns.map D.int), .int (k : Int)] = [some (.scr (ns.map D.int)), some (.int (k : Int)), none] := rfl
  have c : ∃ z : Int, 0 ≤ z ∧ dIf (dIsB (dBin ltI (dVar 1) (dBlt lenB (dCons (dVar 0) (dNil))))) (dBlt absB (dCons (dBin ixD (dVar 0) (dVar 1)) (dNil))) (dBin addD (dBin mulD (dC (.int 11)) (dVar 1)) (dC (.int 4))) [some (.scr (ns.map D.int)), some (.int (k : Int)), none] μ = .ok (.int z) μ := by
    have t : dIsB (dBin ltI (dVar 1) (dBlt lenB (dCons (dVar 0) (dNil)))) [some (.scr (ns.map D.int)), some (.int (k : Int)), none] μ = .ok (decide ((k : Int) < (ns.length : Int))) μ := by
      simp [dIsB, dBin, dVar, dBlt, dCons, dNil, Res.bind, lenB, asS, ofO, ltI, int2]
    unfold dIf
    rw [t]
    simp only [Res.bind]
    by_cases h : (k : Int) < (ns.length : Int)
    · have hk' : k < ns.length := by omega
      rw [if_pos (decide_eq_true h)]
      refine ⟨if ns[k] < 0 then -ns[k] else ns[k], ?_, ?_⟩
      · split <;> omega
      · have e : L2.atI (ns.map D.int) (k : Int) = some (.int ns[k]) := by
          unfold L2.atI
          have q : ixN (ns.map D.int).length (k : Int) = some k := by
            rw [List.length_map]
            unfold ixN
            simp
            omega
          rw [q]
          simp [hk']
        simp [dBin, dVar, dBlt, dCons, dNil, Res.bind, ixD, asS, ofO, e, absB]
    · rw [if_neg (by simpa using h)]
      refine ⟨11 * (k : Int) + 4, by omega, ?_⟩
      simp [dBin, dVar, dC, Res.bind, mulD, orO, mulI, addD, addI, int2, ofO, mulOk_lt]
  obtain ⟨z, hz, c⟩ := c
  refine ⟨if z - 10 ^ 18 > 0 then z - 10 ^ 18 else 0, (z % 2147483543 * 39373 + 52361 * (k : Int) + 29) % 2147483629 + 1, ?_, ?_, ?_, ?_⟩
  · unfold runBody rngD
    rw [es]
    simp only [sSeq, sSet]
    rw [c]
    simp only [bindS]
    have m1 : mulOk (z % 2147483543) 39373 = true := mulOk_lt (Int.emod_nonneg _ (by omega)) (Int.lt_trans (Int.emod_lt_of_pos _ (by omega)) (by decide))
    have m2 : mulOk 52361 (k : Int) = true := mulOk_lt (by decide) (by decide)
    have p : powI (.int 10) (.int 18) = fun _ => some (.int (10 ^ 18)) := by
      funext μ
      rfl
    simp [sRet, dLstM, dCons, dNil, dBlt, dBin, dC, dVar, Res.bind, max2B, subI, p, ofO, addD, mulD, orO, addI, mulI, modI, intB, int2, m1, m2, bindS, kLstM, sizeLine_eq]
  · split <;> omega
  · have := Int.emod_nonneg (z % 2147483543 * 39373 + 52361 * (k : Int) + 29) (show (2147483629 : Int) ≠ 0 by decide)
    omega
  · have := Int.emod_lt_of_pos (z % 2147483543 * 39373 + 52361 * (k : Int) + 29) (show (0 : Int) < 2147483629 by decide)
    omega
/-- the store holds a pot at n -/
def Pot (μ : Store) (n : Nat) : Prop := ∃ x y, At2 μ n x y ∧ 0 ≤ x ∧ 0 ≤ y ∧ y < 2 ^ 60
theorem pot_draw {m1 a1 q1 q2 dv : Int} (C : DrawC m1 a1 q1 q2 dv) {μ : Store} {n : Nat} {k : Int} (h : Pot μ n) (hk : 0 < k ∧ k < 1073741824) : ∃ d μ', runBody 3 (drawD m1 a1 q1 q2 dv) [.loc n, .int k] μ = .ok (.int d) μ' ∧ 0 ≤ d ∧ d < k ∧ Pot μ' n := by
  obtain ⟨x, y, h, hx, hy⟩ := h
  obtain ⟨d, x', y', e, h1, h2, h3, h4⟩ := draw_ok C h hx hy hk
  exact ⟨d, _, e, h1, h2, x', y', At2.set h.lt x' y', h3, h4⟩
theorem rng_pot {ns : List Int} {k : Nat} (hk : k < 1000) (μ : Store) : ∃ μ', runBody 3 rngD [.scr (ns.map D.int), .int (k : Int)] μ = .ok (.loc μ.length) μ' ∧ Pot μ' μ.length := by
  obtain ⟨x, y, e, h⟩ := rng_ok (ns := ns) hk μ
  exact ⟨_, e, x, y, by unfold At2; simp, h⟩
/-- the choice of one of some data -/
theorem pot_choice {m1 a1 q1 q2 dv : Int} (C : DrawC m1 a1 q1 q2 dv) {μ : Store} {n : Nat} {xs : List D} (h : Pot μ n) (hk : 0 < xs.length ∧ xs.length < 1073741824) :
    ∃ d μ', runBody 2 (sRet (dBin ixD (dVar 1) (dCallK 2 0 (fun ds _ => ds) (runBody 3 (drawD m1 a1 q1 q2 dv)) (dCons (dVar 0) (dCons (dBlt lenB (dCons (dVar 1) (dNil))) (dNil))) dNil))) [.loc n, .lst xs] μ = .ok d μ' ∧ d ∈ xs ∧ Pot μ' n := by
  obtain ⟨i, μ', e, h1, h2, hP⟩ := pot_draw C h (k := (xs.length : Int)) (by omega)
  obtain ⟨j, rfl⟩ : ∃ j : Nat, i = (j : Int) := ⟨i.toNat, by omega⟩
  have hj : j < xs.length := by omega
  refine ⟨xs[j], μ', ?_, List.getElem_mem hj, hP⟩
  have es : startD 2 [.loc n, .lst xs] = [some (.loc n), some (.lst xs)] := rfl
  show (match bindS (dBin ixD (dVar 1) (dCallK 2 0 (fun ds _ => ds) (runBody 3 (drawD m1 a1 q1 q2 dv)) (dCons (dVar 0) (dCons (dBlt lenB (dCons (dVar 1) (dNil))) (dNil))) dNil) (startD 2 [.loc n, .lst xs]) μ) _ _ with | .nx _ μ1 => _ | .rt d μ1 => _ | .exc C fs _ μ1 => _ | _ => _) = _
  rw [es]
  have q : ixN xs.length (j : Int) = some j := by
    unfold ixN
    simp
    omega
  have ea : L2.atI xs (j : Int) = some xs[j] := by
    unfold L2.atI
    rw [q]
    simp [hj]
  have c : dCallK 2 0 (fun ds _ => ds) (runBody 3 (drawD m1 a1 q1 q2 dv)) (dCons (dVar 0) (dCons (dBlt lenB (dCons (dVar 1) (dNil))) (dNil))) dNil [some (.loc n), some (.lst xs)] μ = .ok (.int (j : Int)) μ' := by
    rw [← e]
    simp [dCallK, dCons, dNil, dVar, dBlt, Res.bind, lenB, asS, ofO]
  rw [ev_bin (o := ixD) (d := xs[j]) (ev_var (d := .lst xs)) c (by simp only [ixD, asS, ea])]
  rfl
end DL

set_option Elab.async false
set_option linter.all false
set_option autoImplicit false
set_option maxRecDepth 100000
/-! DL, part o: the head by one run, its facts by one Bool. -/
namespace DL
open PySem L2 PySem.Spec PyProof.Rows

/-- what the run tells: the facts B of what the module's names reach, and each def as it stands -/
def tellB (B : W.Frag → Bool) (fn : List He.DefD) (K : W.Frag) : Bool × List He.FnW := (B K && fn.all (He.DefD.ok K), fn.map fun d => He.fnW K d.at_)
def wantB (fn : List He.DefD) : Bool × List He.FnW := (true, fn.map He.DefD.val)
def readB (n : Nat) (B : W.Frag → Bool) (fn : List He.DefD) (g : Addr → Option Obj) : Bool × List He.FnW := tellB B fn (He.frG g (He.asD g n))
def hookB (n : Nat) (B : W.Frag → Bool) (fn : List He.DefD) : W.Hook where
  α := Bool × List He.FnW
  obs := fun s => readB n B fn s.heap.get?
  val := fun _ => wantB fn
  says := fun _ h => ∃ K : W.Frag, K.In h ∧ tellB B fn K = wantB fn
  of := fun _ _ e => ⟨_, He.frG_in, e⟩
  keeps := fun _ _ _ ⟨K, hK, c⟩ k => ⟨K, hK.keeps k, c⟩
def obB (n : Nat) (B : W.Frag → Bool) (fn : List He.DefD) (s : W.SharedT) : Bool × List He.FnW := readB n B fn (HandSHeadRun.getT s)
theorem obB_eq (n : Nat) (B : W.Frag → Bool) (fn : List He.DefD) (s : W.SharedT) : obB n B fn s = (hookB n B fn).obs s.abs := by
  have e : HandSHeadRun.getT s = s.abs.heap.get? := funext (HandSHeadRun.getT_eq s)
  show readB n B fn (HandSHeadRun.getT s) = readB n B fn s.abs.heap.get?
  rw [e]
section
variable {B : W.Frag → Bool} {fn : List He.DefD} {K : W.Frag}
theorem told (c : tellB B fn K = wantB fn) : B K = true := (Bool.and_eq_true_iff.mp (congrArg Prod.fst c)).1
/-- a def of no default, as it stands -/
theorem def_at (c : tellB B fn K = wantB fn) (i : Nat) {d : He.DefD} (h : fn[i]? = some d) (hd : d.dfl = []) :
    ∃ (oc : Value) (od : Option Addr) (kV doc pm : Value) (an : Option Addr) (cdv ct : Value) (osl : Array (Option Value)),
      K.lookup (He.fAd K d.at_) = some ⟨oc, od, .func (W.fnOf d.name d.qual d.params d.body d.scope .none kV doc pm an cdv ct), osl⟩ ∧ W.codeIn K cdv d.qual = true ∧ W.keepIn K (.ref (He.fAd K d.at_)) = true := by
  have c1 := List.all_eq_true.mp (Bool.and_eq_true_iff.mp (congrArg Prod.fst c)).2 d (List.mem_of_getElem? h)
  have e : (fn.map fun d => He.fnW K d.at_)[i]? = (fn.map He.DefD.val)[i]? := congrArg (·[i]?) (congrArg Prod.snd c)
  rw [List.getElem?_map, List.getElem?_map, h] at e
  obtain ⟨fd, ⟨oc, od, dV, kV, doc, pm, an, cdv, ct, osl, rfl, lk, hcd, hdv, _⟩, kp⟩ := He.DefD.funD (Option.some.inj e) c1
  rcases hdv with ⟨_, rfl⟩ | ⟨z, _⟩
  · exact ⟨oc, od, kV, doc, pm, an, cdv, ct, osl, lk, hcd, kp⟩
  · exact absurd (show List.map (He.Dv.v K) d.dfl = [] by rw [hd]; rfl) z
end
/-- what is left of a law behind the head -/
theorem walk_e {l : W.OpenLaw} {n k : Nat} {q : Program} {loose : List Str} {XP : (Str → Option Value) → Heap → Prop} {YP : World → Heap → Prop} {d : DefRec} {x : Str} {m : Mir}
    (hn : l.most = some n) (hn2 : n ≤ sizeLine) (hdf : d.params.defaults = []) (hr : Room k callerA) (hI : importsNone q = true)
    (F : ∀ (w : World) (mg : Str → Option Value) (fa : Addr) (h : Heap), YP w h → h.Ns mainGlobals mg → mg d.name = some (.ref fa) →
      ∃ (K : W.Frag) (fd : FuncData) (cl : Nat → Addr), K.In h ∧ (∀ (s : Shared) (u : Value), BindsTo s fd ⟨[u], []⟩ [(x, u)]) ∧ ∀ base : Heap, K.In base → base.Ns mainGlobals mg → (∃ o, base.get? sysModules = some o) → GnOk l.prog w K mg base k fa fd [x] (spM ⟨K, cl⟩ 1 m))
    (hm : ∀ ns : List Int, ns.length ≤ n → (∀ z ∈ ns, Builtin.Int.intBits z ≤ 1048576) → ∃ μ, m [.scr (ns.map D.int)] [] = .ok (.bl true) μ) :
    W.WalkO q loose XP YP l.row.toRowW d [] (fun f vs => PySem.call f vs) := by
  refine Att.attach_callB hn hdf fun w s₀ s₁ mg mb fa o pm cd doc a vs ns G Y ho hd hcd hmg hobj hints hlen hbits hg => ?_
  obtain ⟨K, fd, cl, KX, hb, hF⟩ := F w mg fa _ Y G.T.g hmg
  exact law_g KX G.T.g G.T.b G.T.builtins G.T.nolimit hg hobj hints (Nat.le_trans hlen hn2) hr (let ⟨mm, z, _⟩ := (G.T.seer hI).mods; ⟨mm, z⟩) hF hb (hm ns hlen hbits)
end DL

set_option Elab.async false
set_option linter.all false
set_option autoImplicit false
set_option maxRecDepth 100000
set_option maxHeartbeats 4000000
/-! k19: the walk -/
namespace K19
open PySem L2 DL
def top (i : Nat) : Stmt := PySem.Challenge.pw_fademodes_k19_errors_and_their_classes.main.body.getD i (.Pass ⟨0, 0, 0, 0⟩)
def nms : List Str := ("InvalidNumber" :: "InvalidName" :: "InvalidCut" :: "InvalidStretch" :: "InvalidRange" :: "InvalidPlace" :: "InvalidPosition" :: "InvalidState" :: "InvalidCell" :: "InvalidCount" :: "InvalidSide" :: "InvalidPaper" :: "InvalidPrices" :: "InvalidProgram" :: "InvalidClaim" :: "InvalidCommand" :: "InvalidHistory" :: "InvalidStarts" :: "InvalidRows" :: "InvalidHand" :: "InvalidBad" :: "InvalidHeard" :: "InvalidLevels" :: "InvalidModes" :: "InvalidMove" :: "InvalidText" :: "OtherLetters" :: "InvalidRule" :: "InvalidRules" :: "TooMany" :: "UnknownMode" :: "UnknownLetter" :: "UnknownLevel" :: "UnknownName" :: "NameTaken" :: "NothingToUndo" :: "DividedByZero" :: "FadeError" :: "MissingError" :: "StateError" :: [])
def nbs : List Str := ("len" :: "abs" :: "max" :: "int" :: "divmod" :: "list" :: "range" :: "isinstance" :: "ValueError" :: "LookupError" :: "RuntimeError" :: "repr" :: "enumerate" :: "min" :: "all" :: [])
def flds : List (List Str) := ["value"] :: ["value"] :: ["value"] :: ["value"] :: ["value"] :: ["value"] :: ["value"] :: ["value"] :: ["value"] :: ["value"] :: ["value"] :: ["value"] :: ["value"] :: ["value"] :: ["value"] :: ["value"] :: ["position"] :: ["position"] :: ["position"] :: ["position"] :: ["position"] :: ["position"] :: ["key"] :: ["key"] :: ["part"] :: ["line"] :: ["letter"] :: ["part", "position"] :: ["mode", "letter", "position"] :: ["kind", "limit"] :: ["value"] :: ["value"] :: ["value"] :: ["value"] :: ["name"] :: [] :: [] :: [] :: [] :: [] :: []
def kwn : List (List Str) := ["value"] :: ["value"] :: ["value"] :: ["value"] :: ["value"] :: ["value"] :: ["value"] :: ["value"] :: ["value"] :: ["value"] :: ["value"] :: ["value"] :: ["value"] :: ["value"] :: ["value"] :: ["value"] :: ["position"] :: ["position"] :: ["position"] :: ["position"] :: ["position"] :: ["position"] :: ["key"] :: ["key"] :: ["part"] :: ["line"] :: ["letter"] :: ["position", "part"] :: ["position", "letter", "mode"] :: ["limit", "kind"] :: ["value"] :: ["value"] :: ["value"] :: ["value"] :: ["name"] :: [] :: [] :: [] :: [] :: [] :: []
def prm : List (List Nat) := [0] :: [0] :: [0] :: [0] :: [0] :: [0] :: [0] :: [0] :: [0] :: [0] :: [0] :: [0] :: [0] :: [0] :: [0] :: [0] :: [0] :: [0] :: [0] :: [0] :: [0] :: [0] :: [0] :: [0] :: [0] :: [0] :: [0] :: [1, 0] :: [2, 1, 0] :: [1, 0] :: [0] :: [0] :: [0] :: [0] :: [0] :: [] :: [] :: [] :: [] :: [] :: []
def ats : List Nat := [2, 3, 4, 5, 6, 12, 13, 14, 17, 19, 20, 21, 24, 26, 28, 29, 15, 16, 18, 22, 23, 25, 9, 10, 7, 27, 30, 8, 11, 31, 33, 34, 35, 36, 38, 39, 40, 1, 32, 37]
def cs_value : List Nat := [0, 1, 2, 3, 4, 5, 6, 7, 8, 9, 10, 11, 12, 13, 14, 15, 30, 31, 32, 33]
def cs_position : List Nat := [16, 17, 18, 19, 20, 21, 27, 28]
def cs_key : List Nat := [22, 23]
def cs_part : List Nat := [24, 27]
def cs_line : List Nat := [25]
def cs_letter : List Nat := [26, 28]
def cs_mode : List Nat := [28]
def cs_kind : List Nat := [29]
def cs_limit : List Nat := [29]
def cs_name : List Nat := [34]
def fam (k : Nat) : Nat := if k ≤ 29 then 0 else if k ≤ 33 then 1 else 2
def tab : ClsTab := ⟨fun k j => if k < 37 then if j < 37 then some (k == j) else if j < 40 then some (fam k + 37 == j) else none else none, fun k n => if k < 37 then if n = "ValueError" then some (fam k == 0) else if n = "LookupError" then some (fam k == 1) else if n = "RuntimeError" then some (fam k == 2) else none else none⟩
def d__law_rng : DenS := sSeq (sSet 2 (dIf (dIsB (dBin ltI (dVar 1) (dBlt lenB (dCons (dVar 0) (dNil))))) (dBlt absB (dCons (dBin ixD (dVar 0) (dVar 1)) (dNil))) (dBin addD (dBin mulD (dC (.int 11)) (dVar 1)) (dC (.int 4))))) (sRet (dLstM (dCons (dBlt max2B (dCons (dC (.int 0)) (dCons (dBin subI (dVar 2) (dBin powI (dC (.int 10)) (dC (.int 18)))) (dNil)))) (dCons (dBin addD (dBin modI (dBlt intB (dCons (dBin addD (dBin addD (dBin mulD (dBin modI (dBlt intB (dCons (dVar 2) (dNil))) (dC (.int 2147483543))) (dC (.int 39373))) (dBin mulD (dC (.int 52361)) (dVar 1))) (dC (.int 29))) (dNil))) (dC (.int 2147483629))) (dC (.int 1))) (dNil)))))
def m__law_rng : Mir := runBody 3 d__law_rng
def d__law_draw : DenS := sSeq (sIf (dIsB (dBin gtI (dBin ixD (dVar 0) (dC (.int 0))) (dC (.int 0)))) (sSeq (sAsg (dBlt divmodB (dCons (dBin ixD (dVar 0) (dC (.int 0))) (dCons (dVar 1) (dNil)))) (gTupD 2 (gsCons (gSubD (dVar 0) (dC (.int 0))) (gsCons (gSet 2) (gsNil))))) (sRet (dVar 2))) (sNext)) (sSeq (sAsg (dBin modI (dBlt intB (dCons (dBin addD (dBin mulD (dBin ixD (dVar 0) (dC (.int 1))) (dC (.int 48271))) (dC (.int 12227))) (dNil))) (dC (.int 2147483587))) (gSubD (dVar 0) (dC (.int 1)))) (sRet (dBin modI (dBlt intB (dCons (dBin divI (dBin modI (dBlt intB (dCons (dBin mulD (dBin ixD (dVar 0) (dC (.int 1))) (dBin ixD (dVar 0) (dC (.int 1)))) (dNil))) (dC (.int 2147483549))) (dC (.int 13))) (dNil))) (dVar 1))))
def m__law_draw : Mir := runBody 3 d__law_draw
def d__law_choice : DenS := sRet (dBin ixD (dVar 1) (dCallK 2 0 (fun ds _ => ds) m__law_draw (dCons (dVar 0) (dCons (dBlt lenB (dCons (dVar 1) (dNil))) (dNil))) dNil))
def m__law_choice : Mir := runBody 2 d__law_choice
def d__law_thing : DenS := sRet (dCallK 2 0 (fun ds _ => ds) m__law_choice (dCons (dVar 0) (dCons (dLst (dCons (dC .non) (dCons (dC (.bl true)) (dCons (dC (.int 0)) (dCons (dUn negD (dC (.int 1))) (dCons (dBin powI (dC (.int 10)) (dC (.int 20))) (dCons (dC (.str "")) (dCons (dC (.str "ab")) (dCons (dTup (dNil)) (dCons (dTup (dCons (dC (.int 1)) (dCons (dLst (dCons (dC (.int 2)) (dNil))) (dNil)))) (dCons (dLst (dCons (dC (.int 1)) (dNil))) (dCons (dDic1 (.inr "a") (.int 1)) (dCons (dLst (dCons (dC .non) (dNil))) (dCons (dC (.bl false)) (dCons (dC (.int 1)) (dNil)))))))))))))))) (dNil))) dNil)
def m__law_thing : Mir := runBody 1 d__law_thing
def d__law_placed : DenS := sSeq (sSet 3 (dLst (dCons (dExc 0 1 0 ["value"] gP (dCons (dVar 0) (dNil)) (dNil)) (dCons (dExc 1 1 0 ["value"] gP (dCons (dVar 0) (dNil)) (dNil)) (dCons (dExc 2 1 0 ["value"] gP (dCons (dVar 0) (dNil)) (dNil)) (dCons (dExc 3 1 0 ["value"] gP (dCons (dVar 0) (dNil)) (dNil)) (dCons (dExc 4 1 0 ["value"] gP (dCons (dVar 0) (dNil)) (dNil)) (dCons (dExc 5 1 0 ["value"] gP (dCons (dVar 0) (dNil)) (dNil)) (dNil))))))))) (sSeq (sSet 3 (dBin addD (dVar 3) (dLst (dCons (dExc 6 1 0 ["value"] gP (dCons (dVar 0) (dNil)) (dNil)) (dCons (dExc 7 1 0 ["value"] gP (dCons (dVar 0) (dNil)) (dNil)) (dCons (dExc 8 1 0 ["value"] gP (dCons (dVar 0) (dNil)) (dNil)) (dCons (dExc 9 1 0 ["value"] gP (dCons (dVar 0) (dNil)) (dNil)) (dCons (dExc 10 1 0 ["value"] gP (dCons (dVar 0) (dNil)) (dNil)) (dNil))))))))) (sSeq (sSet 3 (dBin addD (dVar 3) (dLst (dCons (dExc 11 1 0 ["value"] gP (dCons (dVar 0) (dNil)) (dNil)) (dCons (dExc 12 1 0 ["value"] gP (dCons (dVar 0) (dNil)) (dNil)) (dCons (dExc 13 1 0 ["value"] gP (dCons (dVar 0) (dNil)) (dNil)) (dCons (dExc 14 1 0 ["value"] gP (dCons (dVar 0) (dNil)) (dNil)) (dCons (dExc 15 1 0 ["value"] gP (dCons (dVar 0) (dNil)) (dNil)) (dNil))))))))) (sSeq (sSet 3 (dBin addD (dVar 3) (dLst (dCons (dExc 16 1 0 ["position"] gP (dCons (dVar 0) (dNil)) (dNil)) (dCons (dExc 17 1 0 ["position"] gP (dCons (dVar 0) (dNil)) (dNil)) (dCons (dExc 18 1 0 ["position"] gP (dCons (dVar 0) (dNil)) (dNil)) (dCons (dExc 19 1 0 ["position"] gP (dCons (dVar 0) (dNil)) (dNil)) (dCons (dExc 20 1 0 ["position"] gP (dCons (dVar 0) (dNil)) (dNil)) (dNil))))))))) (sSeq (sSet 3 (dBin addD (dVar 3) (dLst (dCons (dExc 21 1 0 ["position"] gP (dCons (dVar 0) (dNil)) (dNil)) (dCons (dExc 22 1 0 ["key"] gP (dCons (dVar 0) (dNil)) (dNil)) (dCons (dExc 23 1 0 ["key"] gP (dCons (dVar 0) (dNil)) (dNil)) (dCons (dExc 24 1 0 ["part"] gP (dCons (dVar 0) (dNil)) (dNil)) (dCons (dExc 25 1 0 ["line"] gP (dCons (dVar 0) (dNil)) (dNil)) (dNil))))))))) (sSeq (sSet 3 (dBin addD (dVar 3) (dLst (dCons (dExc 26 1 0 ["letter"] gP (dCons (dVar 0) (dNil)) (dNil)) (dCons (dExc 27 2 0 ["part", "position"] gP (dCons (dVar 0) (dCons (dVar 1) (dNil))) (dNil)) (dCons (dExc 28 3 0 ["mode", "letter", "position"] gP (dCons (dVar 0) (dCons (dVar 1) (dCons (dVar 2) (dNil)))) (dNil)) (dCons (dExc 29 2 0 ["kind", "limit"] gP (dCons (dVar 0) (dCons (dVar 1) (dNil))) (dNil)) (dNil)))))))) (sSeq (sSet 3 (dBin addD (dVar 3) (dLst (dCons (dExc 30 1 0 ["value"] gP (dCons (dVar 0) (dNil)) (dNil)) (dCons (dExc 31 1 0 ["value"] gP (dCons (dVar 0) (dNil)) (dNil)) (dCons (dExc 32 1 0 ["value"] gP (dCons (dVar 0) (dNil)) (dNil)) (dCons (dExc 33 1 0 ["value"] gP (dCons (dVar 0) (dNil)) (dNil)) (dNil)))))))) (sRet (dBin addD (dVar 3) (dLst (dCons (dExc 34 1 0 ["name"] gP (dCons (dVar 0) (dNil)) (dNil)) (dCons (dExc0 35) (dCons (dExc0 36) (dNil)))))))))))))
def m__law_placed : Mir := runBody 4 d__law_placed
def d__law_named : DenS := sSeq (sSet 3 (dLst (dCons (dExc 0 0 1 ["value"] (gK [0]) (dNil) (dCons (dVar 0) (dNil))) (dCons (dExc 1 0 1 ["value"] (gK [0]) (dNil) (dCons (dVar 0) (dNil))) (dCons (dExc 2 0 1 ["value"] (gK [0]) (dNil) (dCons (dVar 0) (dNil))) (dCons (dExc 3 0 1 ["value"] (gK [0]) (dNil) (dCons (dVar 0) (dNil))) (dNil))))))) (sSeq (sSet 3 (dBin addD (dVar 3) (dLst (dCons (dExc 4 0 1 ["value"] (gK [0]) (dNil) (dCons (dVar 0) (dNil))) (dCons (dExc 5 0 1 ["value"] (gK [0]) (dNil) (dCons (dVar 0) (dNil))) (dCons (dExc 6 0 1 ["value"] (gK [0]) (dNil) (dCons (dVar 0) (dNil))) (dCons (dExc 7 0 1 ["value"] (gK [0]) (dNil) (dCons (dVar 0) (dNil))) (dNil)))))))) (sSeq (sSet 3 (dBin addD (dVar 3) (dLst (dCons (dExc 8 0 1 ["value"] (gK [0]) (dNil) (dCons (dVar 0) (dNil))) (dCons (dExc 9 0 1 ["value"] (gK [0]) (dNil) (dCons (dVar 0) (dNil))) (dCons (dExc 10 0 1 ["value"] (gK [0]) (dNil) (dCons (dVar 0) (dNil))) (dCons (dExc 11 0 1 ["value"] (gK [0]) (dNil) (dCons (dVar 0) (dNil))) (dNil)))))))) (sSeq (sSet 3 (dBin addD (dVar 3) (dLst (dCons (dExc 12 0 1 ["value"] (gK [0]) (dNil) (dCons (dVar 0) (dNil))) (dCons (dExc 13 0 1 ["value"] (gK [0]) (dNil) (dCons (dVar 0) (dNil))) (dCons (dExc 14 0 1 ["value"] (gK [0]) (dNil) (dCons (dVar 0) (dNil))) (dCons (dExc 15 0 1 ["value"] (gK [0]) (dNil) (dCons (dVar 0) (dNil))) (dNil)))))))) (sSeq (sSet 3 (dBin addD (dVar 3) (dLst (dCons (dExc 16 0 1 ["position"] (gK [0]) (dNil) (dCons (dVar 0) (dNil))) (dCons (dExc 17 0 1 ["position"] (gK [0]) (dNil) (dCons (dVar 0) (dNil))) (dCons (dExc 18 0 1 ["position"] (gK [0]) (dNil) (dCons (dVar 0) (dNil))) (dNil))))))) (sSeq (sSet 3 (dBin addD (dVar 3) (dLst (dCons (dExc 19 0 1 ["position"] (gK [0]) (dNil) (dCons (dVar 0) (dNil))) (dCons (dExc 20 0 1 ["position"] (gK [0]) (dNil) (dCons (dVar 0) (dNil))) (dCons (dExc 21 0 1 ["position"] (gK [0]) (dNil) (dCons (dVar 0) (dNil))) (dCons (dExc 22 0 1 ["key"] (gK [0]) (dNil) (dCons (dVar 0) (dNil))) (dNil)))))))) (sSeq (sSet 3 (dBin addD (dVar 3) (dLst (dCons (dExc 23 0 1 ["key"] (gK [0]) (dNil) (dCons (dVar 0) (dNil))) (dCons (dExc 24 0 1 ["part"] (gK [0]) (dNil) (dCons (dVar 0) (dNil))) (dCons (dExc 25 0 1 ["line"] (gK [0]) (dNil) (dCons (dVar 0) (dNil))) (dCons (dExc 26 0 1 ["letter"] (gK [0]) (dNil) (dCons (dVar 0) (dNil))) (dNil)))))))) (sSeq (sSet 3 (dBin addD (dVar 3) (dLst (dCons (dExc 27 0 2 ["part", "position"] (gK [1, 0]) (dNil) (dCons (dVar 1) (dCons (dVar 0) (dNil)))) (dCons (dExc 28 0 3 ["mode", "letter", "position"] (gK [2, 1, 0]) (dNil) (dCons (dVar 2) (dCons (dVar 1) (dCons (dVar 0) (dNil))))) (dNil)))))) (sSeq (sSet 3 (dBin addD (dVar 3) (dLst (dCons (dExc 29 0 2 ["kind", "limit"] (gK [1, 0]) (dNil) (dCons (dVar 1) (dCons (dVar 0) (dNil)))) (dCons (dExc 30 0 1 ["value"] (gK [0]) (dNil) (dCons (dVar 0) (dNil))) (dCons (dExc 31 0 1 ["value"] (gK [0]) (dNil) (dCons (dVar 0) (dNil))) (dCons (dExc 32 0 1 ["value"] (gK [0]) (dNil) (dCons (dVar 0) (dNil))) (dNil)))))))) (sRet (dBin addD (dVar 3) (dLst (dCons (dExc 33 0 1 ["value"] (gK [0]) (dNil) (dCons (dVar 0) (dNil))) (dCons (dExc 34 0 1 ["name"] (gK [0]) (dNil) (dCons (dVar 0) (dNil))) (dCons (dExc0 35) (dCons (dExc0 36) (dNil))))))))))))))))
def m__law_named : Mir := runBody 4 d__law_named
def d__law_fields : DenS := sSeq (sSet 1 (dLc [2] (iSeq (dBin addD (dLstRg1 (dC (.int 16))) (dLst (dCons (dC (.int 30)) (dCons (dC (.int 31)) (dCons (dC (.int 32)) (dCons (dC (.int 33)) (dNil)))))))) (vName 2) tYesD (dUn (xfC cs_value "value") (dBin ixD (dVar 0) (dVar 2))))) (sSeq (sSet 1 (dBin addD (dBin addD (dVar 1) (dLc [2] (iRng2 (dCons (dC (.int 16)) (dCons (dC (.int 22)) (dNil)))) (vName 2) tYesD (dUn (xfC cs_position "position") (dBin ixD (dVar 0) (dVar 2))))) (dLst (dCons (dUn (xfC cs_key "key") (dBin ixD (dVar 0) (dC (.int 22)))) (dCons (dUn (xfC cs_key "key") (dBin ixD (dVar 0) (dC (.int 23)))) (dCons (dUn (xfC cs_part "part") (dBin ixD (dVar 0) (dC (.int 24)))) (dNil))))))) (sSeq (sSet 1 (dBin addD (dVar 1) (dLst (dCons (dUn (xfC cs_line "line") (dBin ixD (dVar 0) (dC (.int 25)))) (dCons (dUn (xfC cs_letter "letter") (dBin ixD (dVar 0) (dC (.int 26)))) (dCons (dUn (xfC cs_name "name") (dBin ixD (dVar 0) (dC (.int 34)))) (dNil))))))) (sSeq (sSet 1 (dBin addD (dVar 1) (dLst (dCons (dLst (dCons (dUn (xfC cs_part "part") (dBin ixD (dVar 0) (dC (.int 27)))) (dCons (dUn (xfC cs_position "position") (dBin ixD (dVar 0) (dC (.int 27)))) (dNil)))) (dCons (dLst (dCons (dUn (xfC cs_kind "kind") (dBin ixD (dVar 0) (dC (.int 29)))) (dCons (dUn (xfC cs_limit "limit") (dBin ixD (dVar 0) (dC (.int 29)))) (dNil)))) (dNil)))))) (sRet (dBin addD (dVar 1) (dLst (dCons (dLst (dCons (dUn (xfC cs_mode "mode") (dBin ixD (dVar 0) (dC (.int 28)))) (dCons (dUn (xfC cs_letter "letter") (dBin ixD (dVar 0) (dC (.int 28)))) (dCons (dUn (xfC cs_position "position") (dBin ixD (dVar 0) (dC (.int 28)))) (dNil))))) (dNil))))))))
def m__law_fields : Mir := runBody 3 d__law_fields
def d__law_truths : DenS := sSeq (sSet 1 (dLst (dCons (dBlt (isXB tab) (dCons (dVar 0) (dCons (dC (.cls 0)) (dNil)))) (dCons (dBlt (isXB tab) (dCons (dVar 0) (dCons (dC (.cls 1)) (dNil)))) (dCons (dBlt (isXB tab) (dCons (dVar 0) (dCons (dC (.cls 2)) (dNil)))) (dNil)))))) (sSeq (sSet 1 (dBin addD (dVar 1) (dLst (dCons (dBlt (isXB tab) (dCons (dVar 0) (dCons (dC (.cls 3)) (dNil)))) (dCons (dBlt (isXB tab) (dCons (dVar 0) (dCons (dC (.cls 4)) (dNil)))) (dCons (dBlt (isXB tab) (dCons (dVar 0) (dCons (dC (.cls 5)) (dNil)))) (dNil))))))) (sSeq (sSet 1 (dBin addD (dVar 1) (dLst (dCons (dBlt (isXB tab) (dCons (dVar 0) (dCons (dC (.cls 6)) (dNil)))) (dCons (dBlt (isXB tab) (dCons (dVar 0) (dCons (dC (.cls 7)) (dNil)))) (dCons (dBlt (isXB tab) (dCons (dVar 0) (dCons (dC (.cls 8)) (dNil)))) (dNil))))))) (sSeq (sSet 1 (dBin addD (dVar 1) (dLst (dCons (dBlt (isXB tab) (dCons (dVar 0) (dCons (dC (.cls 9)) (dNil)))) (dCons (dBlt (isXB tab) (dCons (dVar 0) (dCons (dC (.cls 10)) (dNil)))) (dCons (dBlt (isXB tab) (dCons (dVar 0) (dCons (dC (.cls 11)) (dNil)))) (dNil))))))) (sSeq (sSet 1 (dBin addD (dVar 1) (dLst (dCons (dBlt (isXB tab) (dCons (dVar 0) (dCons (dC (.cls 12)) (dNil)))) (dCons (dBlt (isXB tab) (dCons (dVar 0) (dCons (dC (.cls 13)) (dNil)))) (dNil)))))) (sSeq (sSet 1 (dBin addD (dVar 1) (dLst (dCons (dBlt (isXB tab) (dCons (dVar 0) (dCons (dC (.cls 14)) (dNil)))) (dCons (dBlt (isXB tab) (dCons (dVar 0) (dCons (dC (.cls 15)) (dNil)))) (dNil)))))) (sSeq (sSet 1 (dBin addD (dVar 1) (dLst (dCons (dBlt (isXB tab) (dCons (dVar 0) (dCons (dC (.cls 16)) (dNil)))) (dCons (dBlt (isXB tab) (dCons (dVar 0) (dCons (dC (.cls 17)) (dNil)))) (dCons (dBlt (isXB tab) (dCons (dVar 0) (dCons (dC (.cls 18)) (dNil)))) (dNil))))))) (sSeq (sSet 1 (dBin addD (dVar 1) (dLst (dCons (dBlt (isXB tab) (dCons (dVar 0) (dCons (dC (.cls 19)) (dNil)))) (dCons (dBlt (isXB tab) (dCons (dVar 0) (dCons (dC (.cls 20)) (dNil)))) (dCons (dBlt (isXB tab) (dCons (dVar 0) (dCons (dC (.cls 21)) (dNil)))) (dNil))))))) (sSeq (sSet 1 (dBin addD (dVar 1) (dLst (dCons (dBlt (isXB tab) (dCons (dVar 0) (dCons (dC (.cls 22)) (dNil)))) (dCons (dBlt (isXB tab) (dCons (dVar 0) (dCons (dC (.cls 23)) (dNil)))) (dCons (dBlt (isXB tab) (dCons (dVar 0) (dCons (dC (.cls 24)) (dNil)))) (dNil))))))) (sSeq (sSet 1 (dBin addD (dVar 1) (dLst (dCons (dBlt (isXB tab) (dCons (dVar 0) (dCons (dC (.cls 25)) (dNil)))) (dCons (dBlt (isXB tab) (dCons (dVar 0) (dCons (dC (.cls 26)) (dNil)))) (dCons (dBlt (isXB tab) (dCons (dVar 0) (dCons (dC (.cls 27)) (dNil)))) (dNil))))))) (sSeq (sSet 1 (dBin addD (dVar 1) (dLst (dCons (dBlt (isXB tab) (dCons (dVar 0) (dCons (dC (.cls 28)) (dNil)))) (dCons (dBlt (isXB tab) (dCons (dVar 0) (dCons (dC (.cls 29)) (dNil)))) (dCons (dBlt (isXB tab) (dCons (dVar 0) (dCons (dC (.cls 30)) (dNil)))) (dNil))))))) (sSeq (sSet 1 (dBin addD (dVar 1) (dLst (dCons (dBlt (isXB tab) (dCons (dVar 0) (dCons (dC (.cls 31)) (dNil)))) (dCons (dBlt (isXB tab) (dCons (dVar 0) (dCons (dC (.cls 32)) (dNil)))) (dCons (dBlt (isXB tab) (dCons (dVar 0) (dCons (dC (.cls 33)) (dNil)))) (dNil))))))) (sSeq (sSet 1 (dBin addD (dVar 1) (dLst (dCons (dBlt (isXB tab) (dCons (dVar 0) (dCons (dC (.cls 34)) (dNil)))) (dCons (dBlt (isXB tab) (dCons (dVar 0) (dCons (dC (.cls 35)) (dNil)))) (dCons (dBlt (isXB tab) (dCons (dVar 0) (dCons (dC (.cls 36)) (dNil)))) (dNil))))))) (sSeq (sSet 1 (dBin addD (dVar 1) (dLst (dCons (dBlt (isXB tab) (dCons (dVar 0) (dCons (dC (.cls 37)) (dNil)))) (dCons (dBlt (isXB tab) (dCons (dVar 0) (dCons (dC (.cls 38)) (dNil)))) (dCons (dBlt (isXB tab) (dCons (dVar 0) (dCons (dC (.cls 39)) (dNil)))) (dNil))))))) (sRet (dBin addD (dVar 1) (dLst (dCons (dBlt (isXB tab) (dCons (dVar 0) (dCons (dC (.ty "ValueError")) (dNil)))) (dCons (dBlt (isXB tab) (dCons (dVar 0) (dCons (dC (.ty "LookupError")) (dNil)))) (dCons (dBlt (isXB tab) (dCons (dVar 0) (dCons (dC (.ty "RuntimeError")) (dNil)))) (dNil))))))))))))))))))))
def m__law_truths : Mir := runBody 2 d__law_truths
def d__law_made_right : DenS := sSeq (sIf (dIsB (dBin neP (dBlt reprB (dCons (dCallK 1 0 (fun ds _ => ds) m__law_fields (dCons (dVar 0) (dNil)) dNil) (dNil))) (dBlt reprB (dCons (dBin addD (dBin addD (dBin mulD (dLst (dCons (dVar 1) (dNil))) (dC (.int 32))) (dBin mulD (dLst (dCons (dLst (dCons (dVar 1) (dCons (dVar 2) (dNil)))) (dNil))) (dC (.int 2)))) (dLst (dCons (dLst (dCons (dVar 1) (dCons (dVar 2) (dCons (dVar 3) (dNil))))) (dNil)))) (dNil))))) (sRet (dC (.bl false))) (sNext)) (sSeq (sFor (iEnumD (dCons (dVar 0) (dNil))) (gTupD 2 (gsCons (gSet 4) (gsCons (gSet 5) (gsNil)))) (sSeq (sSet 6 (dBin addD (dBlt intB (dCons (dBin gtI (dVar 4) (dC (.int 29))) (dNil))) (dBlt intB (dCons (dBin gtI (dVar 4) (dC (.int 33))) (dNil))))) (sIf (dIsB (dBin neP (dCallK 1 0 (fun ds _ => ds) m__law_truths (dCons (dVar 5) (dNil)) dNil) (dBin addD (dLc [7] (iRng1 (dCons (dC (.int 37)) (dNil))) (vName 7) tYesD (dBin eqP (dVar 7) (dVar 4))) (dBin mulD (dLc [7] (iRng1 (dCons (dC (.int 3)) (dNil))) (vName 7) tYesD (dBin eqP (dVar 7) (dVar 6))) (dC (.int 2)))))) (sRet (dC (.bl false))) (sNext)))) (sRet (dBin eqP (dBlt lenB (dCons (dVar 0) (dNil))) (dC (.int 37)))))
def m__law_made_right : Mir := runBody 8 d__law_made_right
def d__law_right : DenS := sSeq (sPar3 2 3 4 (dCons (dCallK 1 0 (fun ds _ => ds) m__law_thing (dCons (dVar 0) (dNil)) dNil) (dCons (dCallK 1 0 (fun ds _ => ds) m__law_thing (dCons (dVar 0) (dNil)) dNil) (dCons (dCallK 1 0 (fun ds _ => ds) m__law_thing (dCons (dVar 0) (dNil)) dNil) (dNil))))) (sSeq (sPar2 5 6 (dCons (dBlt reprB (dCons (dLst (dCons (dVar 2) (dCons (dVar 3) (dCons (dVar 4) (dNil))))) (dNil))) (dCons (dCallK 3 0 (fun ds _ => ds) m__law_placed (dCons (dVar 2) (dCons (dVar 3) (dCons (dVar 4) (dNil)))) dNil) (dNil)))) (sSeq (sIf (dOrT (dNotT (dTru (dCallK 4 0 (fun ds _ => ds) m__law_made_right (dCons (dVar 6) (dCons (dVar 2) (dCons (dVar 3) (dCons (dVar 4) (dNil))))) dNil))) (dNotT (dTru (dCallK 4 0 (fun ds _ => ds) m__law_made_right (dCons (dCallK 3 0 (fun ds _ => ds) m__law_named (dCons (dVar 2) (dCons (dVar 3) (dCons (dVar 4) (dNil)))) dNil) (dCons (dVar 2) (dCons (dVar 3) (dCons (dVar 4) (dNil))))) dNil)))) (sRet (dC (.bl false))) (sNext)) (sSeq (sSet 1 (dCallK 3 0 (fun ds _ => ds) m__law_placed (dCons (dVar 4) (dCons (dVar 2) (dCons (dVar 3) (dNil)))) dNil)) (sRet (dAndV (dCallK 4 0 (fun ds _ => ds) m__law_made_right (dCons (dVar 1) (dCons (dVar 4) (dCons (dVar 2) (dCons (dVar 3) (dNil))))) dNil) (dAndV (dCallK 4 0 (fun ds _ => ds) m__law_made_right (dCons (dVar 6) (dCons (dVar 2) (dCons (dVar 3) (dCons (dVar 4) (dNil))))) dNil) (dBin eqP (dBlt reprB (dCons (dLst (dCons (dVar 2) (dCons (dVar 3) (dCons (dVar 4) (dNil))))) (dNil))) (dVar 5))))))))
def m__law_right : Mir := runBody 7 d__law_right
def d_law : DenS := sRet (dBlt allB (dCons (dLc [1] (iRng1 (dCons (dBlt max2B (dCons (dC (.int 1)) (dCons (dBlt min2B (dCons (dC (.int 4)) (dCons (dBlt lenB (dCons (dVar 0) (dNil))) (dNil)))) (dNil)))) (dNil))) (vName 1) tYesD (dCallK 1 0 (fun ds _ => ds) m__law_right (dCons (dCallK 2 0 (fun ds _ => ds) m__law_rng (dCons (dVar 0) (dCons (dVar 1) (dNil))) dNil) (dNil)) dNil)) (dNil)))
def m_law : Mir := runBody 2 d_law
structure Txt (K : PySem.W.Frag) (mg : Str → Option Value) (base : Heap) (cl : Nat → Addr) : Prop where
  nb : ∀ i, i < 15 → mg (nbs.getD i "") = none
  gm : ∀ n, n < 40 → mg (nms.getD n "") = some (.ref (cl n))
  xp : ∀ n, n < 35 → XMk K cl n (flds.getD n []) [] (flds.getD n []).length gP
  xk : ∀ n, n < 35 → XMk K cl n (flds.getD n []) (kwn.getD n []) 0 (gK (prm.getD n []))
  x0 : ∀ n, 35 ≤ n ∧ n < 37 → XMk0 K (cl n)
  nf_value : NoF K cl cs_value "value"
  nf_position : NoF K cl cs_position "position"
  nf_key : NoF K cl cs_key "key"
  nf_part : NoF K cl cs_part "part"
  nf_line : NoF K cl cs_line "line"
  nf_letter : NoF K cl cs_letter "letter"
  nf_mode : NoF K cl cs_mode "mode"
  nf_kind : NoF K cl cs_kind "kind"
  nf_limit : NoF K cl cs_limit "limit"
  nf_name : NoF K cl cs_name "name"
  TX : TabX K cl tab
  hS : ∃ o, base.get? sysModules = some o
  hSK : ∀ o, K.lookup sysModules = some o → o.cls ≠ .type "list"
section
variable {P : Program} {w : World} {K : PySem.W.Frag} {mg : Str → Option Value} {base : Heap} {cl : Nat → Addr} {f : Addr} {kV doc pm cdv ct oc : Value} {an od : Option Addr} {osl : Array (Option Value)}
theorem ok__law_rng (T : Txt K mg base cl) (lk : K.lookup f = some ⟨oc, od, .func (PySem.W.fnOf "_law_rng" "_law_rng" (defArgs (top 42)) (defBody (top 42)) (defScope (top 42)) .none kV doc pm an cdv ct), osl⟩) (hcd : PySem.W.codeIn K cdv "_law_rng" = true) :
    GnOk P w K mg base 1 f (PySem.W.fnOf "_law_rng" "_law_rng" (defArgs (top 42)) (defBody (top 42)) (defScope (top 42)) .none kV doc pm an cdv ct) ["_law_script", "_law_spot"] (spM ⟨K, cl⟩ 2 m__law_rng) :=
  fn_t (N := ["_law_script", "_law_spot", "_law_cell"]) (k := 0) (st := top 42) lk hcd ⟨rfl, rfl, rfl, by decide +kernel, rfl, by decide +kernel, by decide +kernel⟩ fun A outer s H E C =>
    have S := C.toCt.seen (U := [1, 0, 2]) (L := [2]) (G := ["len", "abs", "max", "int"]) (by decide +kernel)
    dss_cons (s_set C S 2 (de_if (dt_cmp o_ltI (v C.toCt S 1) (e_blt C.toCt S 0 c_len (T.nb 0 (by decide)) bt_len (da_cons rfl (v C.toCt S 0) (da_nil))) (nomark _)) (e_blt C.toCt S 1 c_abs (T.nb 1 (by decide)) bt_abs (da_cons rfl (de_ix (v C.toCt S 0) (v C.toCt S 1) rfl) (da_nil))) (de_bin o_add (de_bin o_mul (de_int) (v C.toCt S 1)) (de_int)))) (dss_one (ds_ret (de_lstM (da_cons rfl (e_blt C.toCt S 2 (c_max2 C.toCt.calm) (T.nb 2 (by decide)) bt_max (da_cons rfl (de_int) (da_cons rfl (de_bin o_subI (v C.toCt S 2) (de_bin o_powI (de_int) (de_int))) (da_nil)))) (da_cons rfl (de_bin o_add (de_bin o_modI (e_bty C.toCt S 3 c_int (T.nb 3 (by decide)) bt_int (da_cons rfl (de_bin o_add (de_bin o_add (de_bin o_mul (de_bin o_modI (e_bty C.toCt S 3 c_int (T.nb 3 (by decide)) bt_int (da_cons rfl (v C.toCt S 2) (da_nil))) (de_int)) (de_int)) (de_bin o_mul (de_int) (v C.toCt S 1))) (de_int)) (da_nil))) (de_int)) (de_int)) (da_nil))))))
theorem ok__law_draw (T : Txt K mg base cl) (lk : K.lookup f = some ⟨oc, od, .func (PySem.W.fnOf "_law_draw" "_law_draw" (defArgs (top 43)) (defBody (top 43)) (defScope (top 43)) .none kV doc pm an cdv ct), osl⟩) (hcd : PySem.W.codeIn K cdv "_law_draw" = true) :
    GnOk P w K mg base 1 f (PySem.W.fnOf "_law_draw" "_law_draw" (defArgs (top 43)) (defBody (top 43)) (defScope (top 43)) .none kV doc pm an cdv ct) ["_law_rng_here", "_law_many"] (spM ⟨K, cl⟩ 2 m__law_draw) :=
  fn_t (N := ["_law_rng_here", "_law_many", "_law_digit"]) (k := 0) (st := top 43) lk hcd ⟨rfl, rfl, rfl, by decide +kernel, rfl, by decide +kernel, by decide +kernel⟩ fun A outer s H E C =>
    have S := C.toCt.seen (U := [0, 1, 2]) (L := [2]) (G := ["divmod", "int"]) (by decide +kernel)
    dss_cons (ds_if (dt_cmp o_gtI (de_ix (v C.toCt S 0) (de_int) rfl) (de_int) (nomark _)) (dss_cons (ds_asg rfl rfl rfl (e_blt C.toCt S 0 c_divmod (T.nb 4 (by decide)) bt_divmod (da_cons rfl (de_ix (v C.toCt S 0) (de_int) rfl) (da_cons rfl (v C.toCt S 1) (da_nil)))) (dg_tup C.toCt.calm rfl (dgs_cons rfl (dg_sub (v C.toCt S 0) (de_int) rfl) (dgs_cons rfl (g_set C S 2) (dgs_nil))))) (dss_one (ds_ret (v C.toCt S 2)))) (dss_nil)) (dss_cons (ds_asg rfl rfl rfl (de_bin o_modI (e_bty C.toCt S 1 c_int (T.nb 3 (by decide)) bt_int (da_cons rfl (de_bin o_add (de_bin o_mul (de_ix (v C.toCt S 0) (de_int) rfl) (de_int)) (de_int)) (da_nil))) (de_int)) (dg_sub (v C.toCt S 0) (de_int) rfl)) (dss_one (ds_ret (de_bin o_modI (e_bty C.toCt S 1 c_int (T.nb 3 (by decide)) bt_int (da_cons rfl (de_bin o_divI (de_bin o_modI (e_bty C.toCt S 1 c_int (T.nb 3 (by decide)) bt_int (da_cons rfl (de_bin o_mul (de_ix (v C.toCt S 0) (de_int) rfl) (de_ix (v C.toCt S 0) (de_int) rfl)) (da_nil))) (de_int)) (de_int)) (da_nil))) (v C.toCt S 1)))))
theorem ok__law_choice (T : Txt K mg base cl) (F__law_draw : Fn P w K mg base cl "_law_draw" ["_law_rng_here", "_law_many"] 1 m__law_draw) (lk : K.lookup f = some ⟨oc, od, .func (PySem.W.fnOf "_law_choice" "_law_choice" (defArgs (top 44)) (defBody (top 44)) (defScope (top 44)) .none kV doc pm an cdv ct), osl⟩) (hcd : PySem.W.codeIn K cdv "_law_choice" = true) :
    GnOk P w K mg base 2 f (PySem.W.fnOf "_law_choice" "_law_choice" (defArgs (top 44)) (defBody (top 44)) (defScope (top 44)) .none kV doc pm an cdv ct) ["_law_rng_here", "_law_some"] (spM ⟨K, cl⟩ 2 m__law_choice) :=
  fn_t (N := ["_law_rng_here", "_law_some"]) (k := 1) (st := top 44) lk hcd ⟨rfl, rfl, rfl, by decide +kernel, rfl, by decide +kernel, by decide +kernel⟩ fun A outer s H E C =>
    have S := C.toCt.seen (U := [1, 0]) (L := []) (G := ["_law_draw", "len"]) (by decide +kernel)
    dss_one (ds_ret (de_ix (v C.toCt S 1) (e_call C.toCt S 0 F__law_draw (da_cons rfl (v C.toCt S 0) (da_cons rfl (e_blt C.toCt S 1 c_len (T.nb 0 (by decide)) bt_len (da_cons rfl (v C.toCt S 1) (da_nil))) (da_nil)))) rfl))
theorem ok__law_thing (T : Txt K mg base cl) (F__law_choice : Fn P w K mg base cl "_law_choice" ["_law_rng_here", "_law_some"] 2 m__law_choice) (lk : K.lookup f = some ⟨oc, od, .func (PySem.W.fnOf "_law_thing" "_law_thing" (defArgs (top 45)) (defBody (top 45)) (defScope (top 45)) .none kV doc pm an cdv ct), osl⟩) (hcd : PySem.W.codeIn K cdv "_law_thing" = true) :
    GnOk P w K mg base 3 f (PySem.W.fnOf "_law_thing" "_law_thing" (defArgs (top 45)) (defBody (top 45)) (defScope (top 45)) .none kV doc pm an cdv ct) ["_law_rng_here"] (spM ⟨K, cl⟩ 1 m__law_thing) :=
  fn_t (N := ["_law_rng_here"]) (k := 2) (st := top 45) lk hcd ⟨rfl, rfl, rfl, by decide +kernel, rfl, by decide +kernel, by decide +kernel⟩ fun A outer s H E C =>
    have S := C.toCt.seen (U := [0]) (L := []) (G := ["_law_choice"]) (by decide +kernel)
    dss_one (ds_ret (e_call C.toCt S 0 F__law_choice (da_cons rfl (v C.toCt S 0) (da_cons rfl (de_lst (da_cons rfl (de_non) (da_cons rfl (de_bl) (da_cons rfl (de_int) (da_cons rfl (de_neg (de_int)) (da_cons rfl (de_bin o_powI (de_int) (de_int)) (da_cons rfl (de_str) (da_cons rfl (de_str) (da_cons rfl (de_tup (da_nil)) (da_cons rfl (de_tup (da_cons rfl (de_int) (da_cons rfl (de_lst (da_cons rfl (de_int) (da_nil))) (da_nil)))) (da_cons rfl (de_lst (da_cons rfl (de_int) (da_nil))) (da_cons rfl (de_dic1 (key := .inr "a") (y := .int 1) pe_str pe_int (fun _ => .int _)) (da_cons rfl (de_lst (da_cons rfl (de_non) (da_nil))) (da_cons rfl (de_bl) (da_cons rfl (de_int) (da_nil)))))))))))))))) (da_nil)))))
theorem ok__law_placed (T : Txt K mg base cl) (lk : K.lookup f = some ⟨oc, od, .func (PySem.W.fnOf "_law_placed" "_law_placed" (defArgs (top 46)) (defBody (top 46)) (defScope (top 46)) .none kV doc pm an cdv ct), osl⟩) (hcd : PySem.W.codeIn K cdv "_law_placed" = true) :
    GnOk P w K mg base 2 f (PySem.W.fnOf "_law_placed" "_law_placed" (defArgs (top 46)) (defBody (top 46)) (defScope (top 46)) .none kV doc pm an cdv ct) ["_law_a", "_law_b", "_law_c"] (spM ⟨K, cl⟩ 3 m__law_placed) :=
  fn_t (N := ["_law_a", "_law_b", "_law_c", "_law_found"]) (k := 1) (st := top 46) lk hcd ⟨rfl, rfl, rfl, by decide +kernel, rfl, by decide +kernel, by decide +kernel⟩ fun A outer s H E C =>
    have S := C.toCt.seen (U := [0, 3, 1, 2]) (L := [3]) (G := ("InvalidNumber" :: "InvalidName" :: "InvalidCut" :: "InvalidStretch" :: "InvalidRange" :: "InvalidPlace" :: "InvalidPosition" :: "InvalidState" :: "InvalidCell" :: "InvalidCount" :: "InvalidSide" :: "InvalidPaper" :: "InvalidPrices" :: "InvalidProgram" :: "InvalidClaim" :: "InvalidCommand" :: "InvalidHistory" :: "InvalidStarts" :: "InvalidRows" :: "InvalidHand" :: "InvalidBad" :: "InvalidHeard" :: "InvalidLevels" :: "InvalidModes" :: "InvalidMove" :: "InvalidText" :: "OtherLetters" :: "InvalidRule" :: "InvalidRules" :: "TooMany" :: "UnknownMode" :: "UnknownLetter" :: "UnknownLevel" :: "UnknownName" :: "NameTaken" :: "NothingToUndo" :: "DividedByZero" :: [])) (by decide +kernel)
    dss_cons (s_set C S 3 (de_lst (da_cons rfl (e_exc C.toCt S 0 (T.xp 0 (by decide)) (T.gm 0 (by decide)) (da_cons rfl (v C.toCt S 0) (da_nil)) (dk_nil)) (da_cons rfl (e_exc C.toCt S 1 (T.xp 1 (by decide)) (T.gm 1 (by decide)) (da_cons rfl (v C.toCt S 0) (da_nil)) (dk_nil)) (da_cons rfl (e_exc C.toCt S 2 (T.xp 2 (by decide)) (T.gm 2 (by decide)) (da_cons rfl (v C.toCt S 0) (da_nil)) (dk_nil)) (da_cons rfl (e_exc C.toCt S 3 (T.xp 3 (by decide)) (T.gm 3 (by decide)) (da_cons rfl (v C.toCt S 0) (da_nil)) (dk_nil)) (da_cons rfl (e_exc C.toCt S 4 (T.xp 4 (by decide)) (T.gm 4 (by decide)) (da_cons rfl (v C.toCt S 0) (da_nil)) (dk_nil)) (da_cons rfl (e_exc C.toCt S 5 (T.xp 5 (by decide)) (T.gm 5 (by decide)) (da_cons rfl (v C.toCt S 0) (da_nil)) (dk_nil)) (da_nil))))))))) (dss_cons (s_set C S 3 (de_bin o_add (v C.toCt S 3) (de_lst (da_cons rfl (e_exc C.toCt S 6 (T.xp 6 (by decide)) (T.gm 6 (by decide)) (da_cons rfl (v C.toCt S 0) (da_nil)) (dk_nil)) (da_cons rfl (e_exc C.toCt S 7 (T.xp 7 (by decide)) (T.gm 7 (by decide)) (da_cons rfl (v C.toCt S 0) (da_nil)) (dk_nil)) (da_cons rfl (e_exc C.toCt S 8 (T.xp 8 (by decide)) (T.gm 8 (by decide)) (da_cons rfl (v C.toCt S 0) (da_nil)) (dk_nil)) (da_cons rfl (e_exc C.toCt S 9 (T.xp 9 (by decide)) (T.gm 9 (by decide)) (da_cons rfl (v C.toCt S 0) (da_nil)) (dk_nil)) (da_cons rfl (e_exc C.toCt S 10 (T.xp 10 (by decide)) (T.gm 10 (by decide)) (da_cons rfl (v C.toCt S 0) (da_nil)) (dk_nil)) (da_nil))))))))) (dss_cons (s_set C S 3 (de_bin o_add (v C.toCt S 3) (de_lst (da_cons rfl (e_exc C.toCt S 11 (T.xp 11 (by decide)) (T.gm 11 (by decide)) (da_cons rfl (v C.toCt S 0) (da_nil)) (dk_nil)) (da_cons rfl (e_exc C.toCt S 12 (T.xp 12 (by decide)) (T.gm 12 (by decide)) (da_cons rfl (v C.toCt S 0) (da_nil)) (dk_nil)) (da_cons rfl (e_exc C.toCt S 13 (T.xp 13 (by decide)) (T.gm 13 (by decide)) (da_cons rfl (v C.toCt S 0) (da_nil)) (dk_nil)) (da_cons rfl (e_exc C.toCt S 14 (T.xp 14 (by decide)) (T.gm 14 (by decide)) (da_cons rfl (v C.toCt S 0) (da_nil)) (dk_nil)) (da_cons rfl (e_exc C.toCt S 15 (T.xp 15 (by decide)) (T.gm 15 (by decide)) (da_cons rfl (v C.toCt S 0) (da_nil)) (dk_nil)) (da_nil))))))))) (dss_cons (s_set C S 3 (de_bin o_add (v C.toCt S 3) (de_lst (da_cons rfl (e_exc C.toCt S 16 (T.xp 16 (by decide)) (T.gm 16 (by decide)) (da_cons rfl (v C.toCt S 0) (da_nil)) (dk_nil)) (da_cons rfl (e_exc C.toCt S 17 (T.xp 17 (by decide)) (T.gm 17 (by decide)) (da_cons rfl (v C.toCt S 0) (da_nil)) (dk_nil)) (da_cons rfl (e_exc C.toCt S 18 (T.xp 18 (by decide)) (T.gm 18 (by decide)) (da_cons rfl (v C.toCt S 0) (da_nil)) (dk_nil)) (da_cons rfl (e_exc C.toCt S 19 (T.xp 19 (by decide)) (T.gm 19 (by decide)) (da_cons rfl (v C.toCt S 0) (da_nil)) (dk_nil)) (da_cons rfl (e_exc C.toCt S 20 (T.xp 20 (by decide)) (T.gm 20 (by decide)) (da_cons rfl (v C.toCt S 0) (da_nil)) (dk_nil)) (da_nil))))))))) (dss_cons (s_set C S 3 (de_bin o_add (v C.toCt S 3) (de_lst (da_cons rfl (e_exc C.toCt S 21 (T.xp 21 (by decide)) (T.gm 21 (by decide)) (da_cons rfl (v C.toCt S 0) (da_nil)) (dk_nil)) (da_cons rfl (e_exc C.toCt S 22 (T.xp 22 (by decide)) (T.gm 22 (by decide)) (da_cons rfl (v C.toCt S 0) (da_nil)) (dk_nil)) (da_cons rfl (e_exc C.toCt S 23 (T.xp 23 (by decide)) (T.gm 23 (by decide)) (da_cons rfl (v C.toCt S 0) (da_nil)) (dk_nil)) (da_cons rfl (e_exc C.toCt S 24 (T.xp 24 (by decide)) (T.gm 24 (by decide)) (da_cons rfl (v C.toCt S 0) (da_nil)) (dk_nil)) (da_cons rfl (e_exc C.toCt S 25 (T.xp 25 (by decide)) (T.gm 25 (by decide)) (da_cons rfl (v C.toCt S 0) (da_nil)) (dk_nil)) (da_nil))))))))) (dss_cons (s_set C S 3 (de_bin o_add (v C.toCt S 3) (de_lst (da_cons rfl (e_exc C.toCt S 26 (T.xp 26 (by decide)) (T.gm 26 (by decide)) (da_cons rfl (v C.toCt S 0) (da_nil)) (dk_nil)) (da_cons rfl (e_exc C.toCt S 27 (T.xp 27 (by decide)) (T.gm 27 (by decide)) (da_cons rfl (v C.toCt S 0) (da_cons rfl (v C.toCt S 1) (da_nil))) (dk_nil)) (da_cons rfl (e_exc C.toCt S 28 (T.xp 28 (by decide)) (T.gm 28 (by decide)) (da_cons rfl (v C.toCt S 0) (da_cons rfl (v C.toCt S 1) (da_cons rfl (v C.toCt S 2) (da_nil)))) (dk_nil)) (da_cons rfl (e_exc C.toCt S 29 (T.xp 29 (by decide)) (T.gm 29 (by decide)) (da_cons rfl (v C.toCt S 0) (da_cons rfl (v C.toCt S 1) (da_nil))) (dk_nil)) (da_nil)))))))) (dss_cons (s_set C S 3 (de_bin o_add (v C.toCt S 3) (de_lst (da_cons rfl (e_exc C.toCt S 30 (T.xp 30 (by decide)) (T.gm 30 (by decide)) (da_cons rfl (v C.toCt S 0) (da_nil)) (dk_nil)) (da_cons rfl (e_exc C.toCt S 31 (T.xp 31 (by decide)) (T.gm 31 (by decide)) (da_cons rfl (v C.toCt S 0) (da_nil)) (dk_nil)) (da_cons rfl (e_exc C.toCt S 32 (T.xp 32 (by decide)) (T.gm 32 (by decide)) (da_cons rfl (v C.toCt S 0) (da_nil)) (dk_nil)) (da_cons rfl (e_exc C.toCt S 33 (T.xp 33 (by decide)) (T.gm 33 (by decide)) (da_cons rfl (v C.toCt S 0) (da_nil)) (dk_nil)) (da_nil)))))))) (dss_one (ds_ret (de_bin o_add (v C.toCt S 3) (de_lst (da_cons rfl (e_exc C.toCt S 34 (T.xp 34 (by decide)) (T.gm 34 (by decide)) (da_cons rfl (v C.toCt S 0) (da_nil)) (dk_nil)) (da_cons rfl (e_exc0 C.toCt S 35 (T.x0 35 (by decide)) (T.gm 35 (by decide))) (da_cons rfl (e_exc0 C.toCt S 36 (T.x0 36 (by decide)) (T.gm 36 (by decide))) (da_nil))))))))))))))
theorem ok__law_named (T : Txt K mg base cl) (lk : K.lookup f = some ⟨oc, od, .func (PySem.W.fnOf "_law_named" "_law_named" (defArgs (top 47)) (defBody (top 47)) (defScope (top 47)) .none kV doc pm an cdv ct), osl⟩) (hcd : PySem.W.codeIn K cdv "_law_named" = true) :
    GnOk P w K mg base 2 f (PySem.W.fnOf "_law_named" "_law_named" (defArgs (top 47)) (defBody (top 47)) (defScope (top 47)) .none kV doc pm an cdv ct) ["_law_a", "_law_b", "_law_c"] (spM ⟨K, cl⟩ 3 m__law_named) :=
  fn_t (N := ["_law_a", "_law_b", "_law_c", "_law_found"]) (k := 1) (st := top 47) lk hcd ⟨rfl, rfl, rfl, by decide +kernel, rfl, by decide +kernel, by decide +kernel⟩ fun A outer s H E C =>
    have S := C.toCt.seen (U := [0, 3, 1, 2]) (L := [3]) (G := ("InvalidNumber" :: "InvalidName" :: "InvalidCut" :: "InvalidStretch" :: "InvalidRange" :: "InvalidPlace" :: "InvalidPosition" :: "InvalidState" :: "InvalidCell" :: "InvalidCount" :: "InvalidSide" :: "InvalidPaper" :: "InvalidPrices" :: "InvalidProgram" :: "InvalidClaim" :: "InvalidCommand" :: "InvalidHistory" :: "InvalidStarts" :: "InvalidRows" :: "InvalidHand" :: "InvalidBad" :: "InvalidHeard" :: "InvalidLevels" :: "InvalidModes" :: "InvalidMove" :: "InvalidText" :: "OtherLetters" :: "InvalidRule" :: "InvalidRules" :: "TooMany" :: "UnknownMode" :: "UnknownLetter" :: "UnknownLevel" :: "UnknownName" :: "NameTaken" :: "NothingToUndo" :: "DividedByZero" :: [])) (by decide +kernel)
    dss_cons (s_set C S 3 (de_lst (da_cons rfl (e_exc C.toCt S 0 (T.xk 0 (by decide)) (T.gm 0 (by decide)) (da_nil) (dk_cons (v C.toCt S 0) (dk_nil))) (da_cons rfl (e_exc C.toCt S 1 (T.xk 1 (by decide)) (T.gm 1 (by decide)) (da_nil) (dk_cons (v C.toCt S 0) (dk_nil))) (da_cons rfl (e_exc C.toCt S 2 (T.xk 2 (by decide)) (T.gm 2 (by decide)) (da_nil) (dk_cons (v C.toCt S 0) (dk_nil))) (da_cons rfl (e_exc C.toCt S 3 (T.xk 3 (by decide)) (T.gm 3 (by decide)) (da_nil) (dk_cons (v C.toCt S 0) (dk_nil))) (da_nil))))))) (dss_cons (s_set C S 3 (de_bin o_add (v C.toCt S 3) (de_lst (da_cons rfl (e_exc C.toCt S 4 (T.xk 4 (by decide)) (T.gm 4 (by decide)) (da_nil) (dk_cons (v C.toCt S 0) (dk_nil))) (da_cons rfl (e_exc C.toCt S 5 (T.xk 5 (by decide)) (T.gm 5 (by decide)) (da_nil) (dk_cons (v C.toCt S 0) (dk_nil))) (da_cons rfl (e_exc C.toCt S 6 (T.xk 6 (by decide)) (T.gm 6 (by decide)) (da_nil) (dk_cons (v C.toCt S 0) (dk_nil))) (da_cons rfl (e_exc C.toCt S 7 (T.xk 7 (by decide)) (T.gm 7 (by decide)) (da_nil) (dk_cons (v C.toCt S 0) (dk_nil))) (da_nil)))))))) (dss_cons (s_set C S 3 (de_bin o_add (v C.toCt S 3) (de_lst (da_cons rfl (e_exc C.toCt S 8 (T.xk 8 (by decide)) (T.gm 8 (by decide)) (da_nil) (dk_cons (v C.toCt S 0) (dk_nil))) (da_cons rfl (e_exc C.toCt S 9 (T.xk 9 (by decide)) (T.gm 9 (by decide)) (da_nil) (dk_cons (v C.toCt S 0) (dk_nil))) (da_cons rfl (e_exc C.toCt S 10 (T.xk 10 (by decide)) (T.gm 10 (by decide)) (da_nil) (dk_cons (v C.toCt S 0) (dk_nil))) (da_cons rfl (e_exc C.toCt S 11 (T.xk 11 (by decide)) (T.gm 11 (by decide)) (da_nil) (dk_cons (v C.toCt S 0) (dk_nil))) (da_nil)))))))) (dss_cons (s_set C S 3 (de_bin o_add (v C.toCt S 3) (de_lst (da_cons rfl (e_exc C.toCt S 12 (T.xk 12 (by decide)) (T.gm 12 (by decide)) (da_nil) (dk_cons (v C.toCt S 0) (dk_nil))) (da_cons rfl (e_exc C.toCt S 13 (T.xk 13 (by decide)) (T.gm 13 (by decide)) (da_nil) (dk_cons (v C.toCt S 0) (dk_nil))) (da_cons rfl (e_exc C.toCt S 14 (T.xk 14 (by decide)) (T.gm 14 (by decide)) (da_nil) (dk_cons (v C.toCt S 0) (dk_nil))) (da_cons rfl (e_exc C.toCt S 15 (T.xk 15 (by decide)) (T.gm 15 (by decide)) (da_nil) (dk_cons (v C.toCt S 0) (dk_nil))) (da_nil)))))))) (dss_cons (s_set C S 3 (de_bin o_add (v C.toCt S 3) (de_lst (da_cons rfl (e_exc C.toCt S 16 (T.xk 16 (by decide)) (T.gm 16 (by decide)) (da_nil) (dk_cons (v C.toCt S 0) (dk_nil))) (da_cons rfl (e_exc C.toCt S 17 (T.xk 17 (by decide)) (T.gm 17 (by decide)) (da_nil) (dk_cons (v C.toCt S 0) (dk_nil))) (da_cons rfl (e_exc C.toCt S 18 (T.xk 18 (by decide)) (T.gm 18 (by decide)) (da_nil) (dk_cons (v C.toCt S 0) (dk_nil))) (da_nil))))))) (dss_cons (s_set C S 3 (de_bin o_add (v C.toCt S 3) (de_lst (da_cons rfl (e_exc C.toCt S 19 (T.xk 19 (by decide)) (T.gm 19 (by decide)) (da_nil) (dk_cons (v C.toCt S 0) (dk_nil))) (da_cons rfl (e_exc C.toCt S 20 (T.xk 20 (by decide)) (T.gm 20 (by decide)) (da_nil) (dk_cons (v C.toCt S 0) (dk_nil))) (da_cons rfl (e_exc C.toCt S 21 (T.xk 21 (by decide)) (T.gm 21 (by decide)) (da_nil) (dk_cons (v C.toCt S 0) (dk_nil))) (da_cons rfl (e_exc C.toCt S 22 (T.xk 22 (by decide)) (T.gm 22 (by decide)) (da_nil) (dk_cons (v C.toCt S 0) (dk_nil))) (da_nil)))))))) (dss_cons (s_set C S 3 (de_bin o_add (v C.toCt S 3) (de_lst (da_cons rfl (e_exc C.toCt S 23 (T.xk 23 (by decide)) (T.gm 23 (by decide)) (da_nil) (dk_cons (v C.toCt S 0) (dk_nil))) (da_cons rfl (e_exc C.toCt S 24 (T.xk 24 (by decide)) (T.gm 24 (by decide)) (da_nil) (dk_cons (v C.toCt S 0) (dk_nil))) (da_cons rfl (e_exc C.toCt S 25 (T.xk 25 (by decide)) (T.gm 25 (by decide)) (da_nil) (dk_cons (v C.toCt S 0) (dk_nil))) (da_cons rfl (e_exc C.toCt S 26 (T.xk 26 (by decide)) (T.gm 26 (by decide)) (da_nil) (dk_cons (v C.toCt S 0) (dk_nil))) (da_nil)))))))) (dss_cons (s_set C S 3 (de_bin o_add (v C.toCt S 3) (de_lst (da_cons rfl (e_exc C.toCt S 27 (T.xk 27 (by decide)) (T.gm 27 (by decide)) (da_nil) (dk_cons (v C.toCt S 1) (dk_cons (v C.toCt S 0) (dk_nil)))) (da_cons rfl (e_exc C.toCt S 28 (T.xk 28 (by decide)) (T.gm 28 (by decide)) (da_nil) (dk_cons (v C.toCt S 2) (dk_cons (v C.toCt S 1) (dk_cons (v C.toCt S 0) (dk_nil))))) (da_nil)))))) (dss_cons (s_set C S 3 (de_bin o_add (v C.toCt S 3) (de_lst (da_cons rfl (e_exc C.toCt S 29 (T.xk 29 (by decide)) (T.gm 29 (by decide)) (da_nil) (dk_cons (v C.toCt S 1) (dk_cons (v C.toCt S 0) (dk_nil)))) (da_cons rfl (e_exc C.toCt S 30 (T.xk 30 (by decide)) (T.gm 30 (by decide)) (da_nil) (dk_cons (v C.toCt S 0) (dk_nil))) (da_cons rfl (e_exc C.toCt S 31 (T.xk 31 (by decide)) (T.gm 31 (by decide)) (da_nil) (dk_cons (v C.toCt S 0) (dk_nil))) (da_cons rfl (e_exc C.toCt S 32 (T.xk 32 (by decide)) (T.gm 32 (by decide)) (da_nil) (dk_cons (v C.toCt S 0) (dk_nil))) (da_nil)))))))) (dss_one (ds_ret (de_bin o_add (v C.toCt S 3) (de_lst (da_cons rfl (e_exc C.toCt S 33 (T.xk 33 (by decide)) (T.gm 33 (by decide)) (da_nil) (dk_cons (v C.toCt S 0) (dk_nil))) (da_cons rfl (e_exc C.toCt S 34 (T.xk 34 (by decide)) (T.gm 34 (by decide)) (da_nil) (dk_cons (v C.toCt S 0) (dk_nil))) (da_cons rfl (e_exc0 C.toCt S 35 (T.x0 35 (by decide)) (T.gm 35 (by decide))) (da_cons rfl (e_exc0 C.toCt S 36 (T.x0 36 (by decide)) (T.gm 36 (by decide))) (da_nil)))))))))))))))))
theorem ok__law_fields (T : Txt K mg base cl) (lk : K.lookup f = some ⟨oc, od, .func (PySem.W.fnOf "_law_fields" "_law_fields" (defArgs (top 48)) (defBody (top 48)) (defScope (top 48)) .none kV doc pm an cdv ct), osl⟩) (hcd : PySem.W.codeIn K cdv "_law_fields" = true) :
    GnOk P w K mg base 1 f (PySem.W.fnOf "_law_fields" "_law_fields" (defArgs (top 48)) (defBody (top 48)) (defScope (top 48)) .none kV doc pm an cdv ct) ["_law_made"] (spM ⟨K, cl⟩ 1 m__law_fields) :=
  fn_t (N := ["_law_made", "_law_found", "_law_at"]) (k := 0) (st := top 48) lk hcd ⟨rfl, rfl, rfl, by decide +kernel, rfl, by decide +kernel, by decide +kernel⟩ fun A outer s H E C =>
    have S := C.toCt.seen (U := [1, 0]) (L := [1]) (G := ["list", "range"]) (by decide +kernel)
    dss_cons (s_lc1 C S 1 2 (blkOk_by (by decide +kernel)) (di_seq (de_bin o_add (e_lrg C.toCt S 0 1 (T.nb 5 (by decide)) (T.nb 6 (by decide)) (de_int)) (de_lst (da_cons rfl (de_int) (da_cons rfl (de_int) (da_cons rfl (de_int) (da_cons rfl (de_int) (da_nil)))))))) (fun _ _ _ _ _ _ => dts_nil) (fun _ _ _ _ _ B1 => have T1 := B1.seen (U := [0, 2]) (L := []) (G := []) (by decide +kernel); e_xf (T.nf_value) (de_ix (v B1 T1 0) (v B1 T1 2) rfl))) (dss_cons (s_set C S 1 (de_bin o_add (de_bin o_add (v C.toCt S 1) (e_lc1 C.toCt 2 (blkOk_by (by decide +kernel)) (i_rng2 C.toCt S 1 (T.nb 6 (by decide)) (da_cons rfl (de_int) (da_cons rfl (de_int) (da_nil)))) (fun _ _ _ _ _ _ => dts_nil) (fun _ _ _ _ _ B1 => have T1 := B1.seen (U := [0, 2]) (L := []) (G := []) (by decide +kernel); e_xf (T.nf_position) (de_ix (v B1 T1 0) (v B1 T1 2) rfl)))) (de_lst (da_cons rfl (e_xf (T.nf_key) (de_ix (v C.toCt S 0) (de_int) rfl)) (da_cons rfl (e_xf (T.nf_key) (de_ix (v C.toCt S 0) (de_int) rfl)) (da_cons rfl (e_xf (T.nf_part) (de_ix (v C.toCt S 0) (de_int) rfl)) (da_nil))))))) (dss_cons (s_set C S 1 (de_bin o_add (v C.toCt S 1) (de_lst (da_cons rfl (e_xf (T.nf_line) (de_ix (v C.toCt S 0) (de_int) rfl)) (da_cons rfl (e_xf (T.nf_letter) (de_ix (v C.toCt S 0) (de_int) rfl)) (da_cons rfl (e_xf (T.nf_name) (de_ix (v C.toCt S 0) (de_int) rfl)) (da_nil))))))) (dss_cons (s_set C S 1 (de_bin o_add (v C.toCt S 1) (de_lst (da_cons rfl (de_lst (da_cons rfl (e_xf (T.nf_part) (de_ix (v C.toCt S 0) (de_int) rfl)) (da_cons rfl (e_xf (T.nf_position) (de_ix (v C.toCt S 0) (de_int) rfl)) (da_nil)))) (da_cons rfl (de_lst (da_cons rfl (e_xf (T.nf_kind) (de_ix (v C.toCt S 0) (de_int) rfl)) (da_cons rfl (e_xf (T.nf_limit) (de_ix (v C.toCt S 0) (de_int) rfl)) (da_nil)))) (da_nil)))))) (dss_one (ds_ret (de_bin o_add (v C.toCt S 1) (de_lst (da_cons rfl (de_lst (da_cons rfl (e_xf (T.nf_mode) (de_ix (v C.toCt S 0) (de_int) rfl)) (da_cons rfl (e_xf (T.nf_letter) (de_ix (v C.toCt S 0) (de_int) rfl)) (da_cons rfl (e_xf (T.nf_position) (de_ix (v C.toCt S 0) (de_int) rfl)) (da_nil))))) (da_nil)))))))))
theorem ok__law_truths (T : Txt K mg base cl) (lk : K.lookup f = some ⟨oc, od, .func (PySem.W.fnOf "_law_truths" "_law_truths" (defArgs (top 49)) (defBody (top 49)) (defScope (top 49)) .none kV doc pm an cdv ct), osl⟩) (hcd : PySem.W.codeIn K cdv "_law_truths" = true) :
    GnOk P w K mg base 2 f (PySem.W.fnOf "_law_truths" "_law_truths" (defArgs (top 49)) (defBody (top 49)) (defScope (top 49)) .none kV doc pm an cdv ct) ["_law_made"] (spM ⟨K, cl⟩ 1 m__law_truths) :=
  fn_t (N := ["_law_made", "_law_found"]) (k := 1) (st := top 49) lk hcd ⟨rfl, rfl, rfl, by decide +kernel, rfl, by decide +kernel, by decide +kernel⟩ fun A outer s H E C =>
    have S := C.toCt.seen (U := [0, 1]) (L := [1]) (G := ("isinstance" :: "InvalidNumber" :: "InvalidName" :: "InvalidCut" :: "InvalidStretch" :: "InvalidRange" :: "InvalidPlace" :: "InvalidPosition" :: "InvalidState" :: "InvalidCell" :: "InvalidCount" :: "InvalidSide" :: "InvalidPaper" :: "InvalidPrices" :: "InvalidProgram" :: "InvalidClaim" :: "InvalidCommand" :: "InvalidHistory" :: "InvalidStarts" :: "InvalidRows" :: "InvalidHand" :: "InvalidBad" :: "InvalidHeard" :: "InvalidLevels" :: "InvalidModes" :: "InvalidMove" :: "InvalidText" :: "OtherLetters" :: "InvalidRule" :: "InvalidRules" :: "TooMany" :: "UnknownMode" :: "UnknownLetter" :: "UnknownLevel" :: "UnknownName" :: "NameTaken" :: "NothingToUndo" :: "DividedByZero" :: "FadeError" :: "MissingError" :: "StateError" :: "ValueError" :: "LookupError" :: "RuntimeError" :: [])) (by decide +kernel)
    dss_cons (s_set C S 1 (de_lst (da_cons rfl (e_blt C.toCt S 0 (c_isX T.TX) (T.nb 7 (by decide)) bt_isinstance (da_cons rfl (v C.toCt S 0) (da_cons rfl (e_cls C.toCt S 1 (T.gm 0 (by decide))) (da_nil)))) (da_cons rfl (e_blt C.toCt S 0 (c_isX T.TX) (T.nb 7 (by decide)) bt_isinstance (da_cons rfl (v C.toCt S 0) (da_cons rfl (e_cls C.toCt S 2 (T.gm 1 (by decide))) (da_nil)))) (da_cons rfl (e_blt C.toCt S 0 (c_isX T.TX) (T.nb 7 (by decide)) bt_isinstance (da_cons rfl (v C.toCt S 0) (da_cons rfl (e_cls C.toCt S 3 (T.gm 2 (by decide))) (da_nil)))) (da_nil)))))) (dss_cons (s_set C S 1 (de_bin o_add (v C.toCt S 1) (de_lst (da_cons rfl (e_blt C.toCt S 0 (c_isX T.TX) (T.nb 7 (by decide)) bt_isinstance (da_cons rfl (v C.toCt S 0) (da_cons rfl (e_cls C.toCt S 4 (T.gm 3 (by decide))) (da_nil)))) (da_cons rfl (e_blt C.toCt S 0 (c_isX T.TX) (T.nb 7 (by decide)) bt_isinstance (da_cons rfl (v C.toCt S 0) (da_cons rfl (e_cls C.toCt S 5 (T.gm 4 (by decide))) (da_nil)))) (da_cons rfl (e_blt C.toCt S 0 (c_isX T.TX) (T.nb 7 (by decide)) bt_isinstance (da_cons rfl (v C.toCt S 0) (da_cons rfl (e_cls C.toCt S 6 (T.gm 5 (by decide))) (da_nil)))) (da_nil))))))) (dss_cons (s_set C S 1 (de_bin o_add (v C.toCt S 1) (de_lst (da_cons rfl (e_blt C.toCt S 0 (c_isX T.TX) (T.nb 7 (by decide)) bt_isinstance (da_cons rfl (v C.toCt S 0) (da_cons rfl (e_cls C.toCt S 7 (T.gm 6 (by decide))) (da_nil)))) (da_cons rfl (e_blt C.toCt S 0 (c_isX T.TX) (T.nb 7 (by decide)) bt_isinstance (da_cons rfl (v C.toCt S 0) (da_cons rfl (e_cls C.toCt S 8 (T.gm 7 (by decide))) (da_nil)))) (da_cons rfl (e_blt C.toCt S 0 (c_isX T.TX) (T.nb 7 (by decide)) bt_isinstance (da_cons rfl (v C.toCt S 0) (da_cons rfl (e_cls C.toCt S 9 (T.gm 8 (by decide))) (da_nil)))) (da_nil))))))) (dss_cons (s_set C S 1 (de_bin o_add (v C.toCt S 1) (de_lst (da_cons rfl (e_blt C.toCt S 0 (c_isX T.TX) (T.nb 7 (by decide)) bt_isinstance (da_cons rfl (v C.toCt S 0) (da_cons rfl (e_cls C.toCt S 10 (T.gm 9 (by decide))) (da_nil)))) (da_cons rfl (e_blt C.toCt S 0 (c_isX T.TX) (T.nb 7 (by decide)) bt_isinstance (da_cons rfl (v C.toCt S 0) (da_cons rfl (e_cls C.toCt S 11 (T.gm 10 (by decide))) (da_nil)))) (da_cons rfl (e_blt C.toCt S 0 (c_isX T.TX) (T.nb 7 (by decide)) bt_isinstance (da_cons rfl (v C.toCt S 0) (da_cons rfl (e_cls C.toCt S 12 (T.gm 11 (by decide))) (da_nil)))) (da_nil))))))) (dss_cons (s_set C S 1 (de_bin o_add (v C.toCt S 1) (de_lst (da_cons rfl (e_blt C.toCt S 0 (c_isX T.TX) (T.nb 7 (by decide)) bt_isinstance (da_cons rfl (v C.toCt S 0) (da_cons rfl (e_cls C.toCt S 13 (T.gm 12 (by decide))) (da_nil)))) (da_cons rfl (e_blt C.toCt S 0 (c_isX T.TX) (T.nb 7 (by decide)) bt_isinstance (da_cons rfl (v C.toCt S 0) (da_cons rfl (e_cls C.toCt S 14 (T.gm 13 (by decide))) (da_nil)))) (da_nil)))))) (dss_cons (s_set C S 1 (de_bin o_add (v C.toCt S 1) (de_lst (da_cons rfl (e_blt C.toCt S 0 (c_isX T.TX) (T.nb 7 (by decide)) bt_isinstance (da_cons rfl (v C.toCt S 0) (da_cons rfl (e_cls C.toCt S 15 (T.gm 14 (by decide))) (da_nil)))) (da_cons rfl (e_blt C.toCt S 0 (c_isX T.TX) (T.nb 7 (by decide)) bt_isinstance (da_cons rfl (v C.toCt S 0) (da_cons rfl (e_cls C.toCt S 16 (T.gm 15 (by decide))) (da_nil)))) (da_nil)))))) (dss_cons (s_set C S 1 (de_bin o_add (v C.toCt S 1) (de_lst (da_cons rfl (e_blt C.toCt S 0 (c_isX T.TX) (T.nb 7 (by decide)) bt_isinstance (da_cons rfl (v C.toCt S 0) (da_cons rfl (e_cls C.toCt S 17 (T.gm 16 (by decide))) (da_nil)))) (da_cons rfl (e_blt C.toCt S 0 (c_isX T.TX) (T.nb 7 (by decide)) bt_isinstance (da_cons rfl (v C.toCt S 0) (da_cons rfl (e_cls C.toCt S 18 (T.gm 17 (by decide))) (da_nil)))) (da_cons rfl (e_blt C.toCt S 0 (c_isX T.TX) (T.nb 7 (by decide)) bt_isinstance (da_cons rfl (v C.toCt S 0) (da_cons rfl (e_cls C.toCt S 19 (T.gm 18 (by decide))) (da_nil)))) (da_nil))))))) (dss_cons (s_set C S 1 (de_bin o_add (v C.toCt S 1) (de_lst (da_cons rfl (e_blt C.toCt S 0 (c_isX T.TX) (T.nb 7 (by decide)) bt_isinstance (da_cons rfl (v C.toCt S 0) (da_cons rfl (e_cls C.toCt S 20 (T.gm 19 (by decide))) (da_nil)))) (da_cons rfl (e_blt C.toCt S 0 (c_isX T.TX) (T.nb 7 (by decide)) bt_isinstance (da_cons rfl (v C.toCt S 0) (da_cons rfl (e_cls C.toCt S 21 (T.gm 20 (by decide))) (da_nil)))) (da_cons rfl (e_blt C.toCt S 0 (c_isX T.TX) (T.nb 7 (by decide)) bt_isinstance (da_cons rfl (v C.toCt S 0) (da_cons rfl (e_cls C.toCt S 22 (T.gm 21 (by decide))) (da_nil)))) (da_nil))))))) (dss_cons (s_set C S 1 (de_bin o_add (v C.toCt S 1) (de_lst (da_cons rfl (e_blt C.toCt S 0 (c_isX T.TX) (T.nb 7 (by decide)) bt_isinstance (da_cons rfl (v C.toCt S 0) (da_cons rfl (e_cls C.toCt S 23 (T.gm 22 (by decide))) (da_nil)))) (da_cons rfl (e_blt C.toCt S 0 (c_isX T.TX) (T.nb 7 (by decide)) bt_isinstance (da_cons rfl (v C.toCt S 0) (da_cons rfl (e_cls C.toCt S 24 (T.gm 23 (by decide))) (da_nil)))) (da_cons rfl (e_blt C.toCt S 0 (c_isX T.TX) (T.nb 7 (by decide)) bt_isinstance (da_cons rfl (v C.toCt S 0) (da_cons rfl (e_cls C.toCt S 25 (T.gm 24 (by decide))) (da_nil)))) (da_nil))))))) (dss_cons (s_set C S 1 (de_bin o_add (v C.toCt S 1) (de_lst (da_cons rfl (e_blt C.toCt S 0 (c_isX T.TX) (T.nb 7 (by decide)) bt_isinstance (da_cons rfl (v C.toCt S 0) (da_cons rfl (e_cls C.toCt S 26 (T.gm 25 (by decide))) (da_nil)))) (da_cons rfl (e_blt C.toCt S 0 (c_isX T.TX) (T.nb 7 (by decide)) bt_isinstance (da_cons rfl (v C.toCt S 0) (da_cons rfl (e_cls C.toCt S 27 (T.gm 26 (by decide))) (da_nil)))) (da_cons rfl (e_blt C.toCt S 0 (c_isX T.TX) (T.nb 7 (by decide)) bt_isinstance (da_cons rfl (v C.toCt S 0) (da_cons rfl (e_cls C.toCt S 28 (T.gm 27 (by decide))) (da_nil)))) (da_nil))))))) (dss_cons (s_set C S 1 (de_bin o_add (v C.toCt S 1) (de_lst (da_cons rfl (e_blt C.toCt S 0 (c_isX T.TX) (T.nb 7 (by decide)) bt_isinstance (da_cons rfl (v C.toCt S 0) (da_cons rfl (e_cls C.toCt S 29 (T.gm 28 (by decide))) (da_nil)))) (da_cons rfl (e_blt C.toCt S 0 (c_isX T.TX) (T.nb 7 (by decide)) bt_isinstance (da_cons rfl (v C.toCt S 0) (da_cons rfl (e_cls C.toCt S 30 (T.gm 29 (by decide))) (da_nil)))) (da_cons rfl (e_blt C.toCt S 0 (c_isX T.TX) (T.nb 7 (by decide)) bt_isinstance (da_cons rfl (v C.toCt S 0) (da_cons rfl (e_cls C.toCt S 31 (T.gm 30 (by decide))) (da_nil)))) (da_nil))))))) (dss_cons (s_set C S 1 (de_bin o_add (v C.toCt S 1) (de_lst (da_cons rfl (e_blt C.toCt S 0 (c_isX T.TX) (T.nb 7 (by decide)) bt_isinstance (da_cons rfl (v C.toCt S 0) (da_cons rfl (e_cls C.toCt S 32 (T.gm 31 (by decide))) (da_nil)))) (da_cons rfl (e_blt C.toCt S 0 (c_isX T.TX) (T.nb 7 (by decide)) bt_isinstance (da_cons rfl (v C.toCt S 0) (da_cons rfl (e_cls C.toCt S 33 (T.gm 32 (by decide))) (da_nil)))) (da_cons rfl (e_blt C.toCt S 0 (c_isX T.TX) (T.nb 7 (by decide)) bt_isinstance (da_cons rfl (v C.toCt S 0) (da_cons rfl (e_cls C.toCt S 34 (T.gm 33 (by decide))) (da_nil)))) (da_nil))))))) (dss_cons (s_set C S 1 (de_bin o_add (v C.toCt S 1) (de_lst (da_cons rfl (e_blt C.toCt S 0 (c_isX T.TX) (T.nb 7 (by decide)) bt_isinstance (da_cons rfl (v C.toCt S 0) (da_cons rfl (e_cls C.toCt S 35 (T.gm 34 (by decide))) (da_nil)))) (da_cons rfl (e_blt C.toCt S 0 (c_isX T.TX) (T.nb 7 (by decide)) bt_isinstance (da_cons rfl (v C.toCt S 0) (da_cons rfl (e_cls C.toCt S 36 (T.gm 35 (by decide))) (da_nil)))) (da_cons rfl (e_blt C.toCt S 0 (c_isX T.TX) (T.nb 7 (by decide)) bt_isinstance (da_cons rfl (v C.toCt S 0) (da_cons rfl (e_cls C.toCt S 37 (T.gm 36 (by decide))) (da_nil)))) (da_nil))))))) (dss_cons (s_set C S 1 (de_bin o_add (v C.toCt S 1) (de_lst (da_cons rfl (e_blt C.toCt S 0 (c_isX T.TX) (T.nb 7 (by decide)) bt_isinstance (da_cons rfl (v C.toCt S 0) (da_cons rfl (e_cls C.toCt S 38 (T.gm 37 (by decide))) (da_nil)))) (da_cons rfl (e_blt C.toCt S 0 (c_isX T.TX) (T.nb 7 (by decide)) bt_isinstance (da_cons rfl (v C.toCt S 0) (da_cons rfl (e_cls C.toCt S 39 (T.gm 38 (by decide))) (da_nil)))) (da_cons rfl (e_blt C.toCt S 0 (c_isX T.TX) (T.nb 7 (by decide)) bt_isinstance (da_cons rfl (v C.toCt S 0) (da_cons rfl (e_cls C.toCt S 40 (T.gm 39 (by decide))) (da_nil)))) (da_nil))))))) (dss_one (ds_ret (de_bin o_add (v C.toCt S 1) (de_lst (da_cons rfl (e_blt C.toCt S 0 (c_isX T.TX) (T.nb 7 (by decide)) bt_isinstance (da_cons rfl (v C.toCt S 0) (da_cons rfl (e_ty C.toCt S 41 (T.nb 8 (by decide)) bt_ValueError) (da_nil)))) (da_cons rfl (e_blt C.toCt S 0 (c_isX T.TX) (T.nb 7 (by decide)) bt_isinstance (da_cons rfl (v C.toCt S 0) (da_cons rfl (e_ty C.toCt S 42 (T.nb 9 (by decide)) bt_LookupError) (da_nil)))) (da_cons rfl (e_blt C.toCt S 0 (c_isX T.TX) (T.nb 7 (by decide)) bt_isinstance (da_cons rfl (v C.toCt S 0) (da_cons rfl (e_ty C.toCt S 43 (T.nb 10 (by decide)) bt_RuntimeError) (da_nil)))) (da_nil)))))))))))))))))))))
theorem ok__law_made_right (T : Txt K mg base cl) (F__law_fields : Fn P w K mg base cl "_law_fields" ["_law_made"] 1 m__law_fields) (F__law_truths : Fn P w K mg base cl "_law_truths" ["_law_made"] 2 m__law_truths) (lk : K.lookup f = some ⟨oc, od, .func (PySem.W.fnOf "_law_made_right" "_law_made_right" (defArgs (top 50)) (defBody (top 50)) (defScope (top 50)) .none kV doc pm an cdv ct), osl⟩) (hcd : PySem.W.codeIn K cdv "_law_made_right" = true) :
    GnOk P w K mg base 3 f (PySem.W.fnOf "_law_made_right" "_law_made_right" (defArgs (top 50)) (defBody (top 50)) (defScope (top 50)) .none kV doc pm an cdv ct) ["_law_made", "_law_a", "_law_b", "_law_c"] (spM ⟨K, cl⟩ 4 m__law_made_right) :=
  fn_t (N := ["_law_made", "_law_a", "_law_b", "_law_c", "_law_k", "_law_error", "_law_family", "_law_at"]) (k := 2) (st := top 50) lk hcd ⟨rfl, rfl, rfl, by decide +kernel, rfl, by decide +kernel, by decide +kernel⟩ fun A outer s H E C =>
    have S := C.toCt.seen (U := [0, 1, 2, 3, 4, 5]) (L := [4, 5, 6]) (G := ["repr", "_law_fields", "enumerate", "int", "_law_truths", "range", "len"]) (by decide +kernel)
    dss_cons (ds_if (dt_cmp (o_neP C.toCt.room.units) (e_blt C.toCt S 0 (c_repr C.toCt.grd C.toCt.room T.hS T.hSK) (T.nb 11 (by decide)) bt_repr (da_cons rfl (e_call C.toCt S 1 F__law_fields (da_cons rfl (v C.toCt S 0) (da_nil))) (da_nil))) (e_blt C.toCt S 0 (c_repr C.toCt.grd C.toCt.room T.hS T.hSK) (T.nb 11 (by decide)) bt_repr (da_cons rfl (de_bin o_add (de_bin o_add (de_bin o_mul (de_lst (da_cons rfl (v C.toCt S 1) (da_nil))) (de_int)) (de_bin o_mul (de_lst (da_cons rfl (de_lst (da_cons rfl (v C.toCt S 1) (da_cons rfl (v C.toCt S 2) (da_nil)))) (da_nil))) (de_int))) (de_lst (da_cons rfl (de_lst (da_cons rfl (v C.toCt S 1) (da_cons rfl (v C.toCt S 2) (da_cons rfl (v C.toCt S 3) (da_nil))))) (da_nil)))) (da_nil))) (nomark _)) (dss_one (ds_ret (de_bl))) (dss_nil)) (dss_cons (s_for C (i_enum C.toCt S 2 (T.nb 12 (by decide)) (da_cons rfl (v C.toCt S 0) (da_nil))) (dg_tup C.toCt.calm rfl (dgs_cons rfl (g_set C S 4) (dgs_cons rfl (g_set C S 5) (dgs_nil)))) (dss_cons (s_set C S 6 (de_bin o_add (e_bty C.toCt S 3 c_int (T.nb 3 (by decide)) bt_int (da_cons rfl (de_cmp o_gtI (v C.toCt S 4) (de_int) (nomark _)) (da_nil))) (e_bty C.toCt S 3 c_int (T.nb 3 (by decide)) bt_int (da_cons rfl (de_cmp o_gtI (v C.toCt S 4) (de_int) (nomark _)) (da_nil))))) (dss_one (ds_if (dt_cmp (o_neP C.toCt.room.units) (e_call C.toCt S 4 F__law_truths (da_cons rfl (v C.toCt S 5) (da_nil))) (de_bin o_add (e_lc1 C.toCt 7 (blkOk_by (by decide +kernel)) (i_rng1 C.toCt S 5 (T.nb 6 (by decide)) (da_cons rfl (de_int) (da_nil))) (fun _ _ _ _ _ _ => dts_nil) (fun _ _ _ _ _ B1 => have T1 := B1.seen (U := [7, 4]) (L := []) (G := []) (by decide +kernel); de_cmp (o_eqP B1.room.units) (v B1 T1 7) (v B1 T1 4) (nomark _))) (de_bin o_mul (e_lc1 C.toCt 7 (blkOk_by (by decide +kernel)) (i_rng1 C.toCt S 5 (T.nb 6 (by decide)) (da_cons rfl (de_int) (da_nil))) (fun _ _ _ _ _ _ => dts_nil) (fun _ _ _ _ _ B1 => have T1 := B1.seen (U := [7, 6]) (L := []) (G := []) (by decide +kernel); de_cmp (o_eqP B1.room.units) (v B1 T1 7) (v B1 T1 6) (nomark _))) (de_int))) (nomark _)) (dss_one (ds_ret (de_bl))) (dss_nil))))) (dss_one (ds_ret (de_cmp (o_eqP C.toCt.room.units) (e_blt C.toCt S 6 c_len (T.nb 0 (by decide)) bt_len (da_cons rfl (v C.toCt S 0) (da_nil))) (de_int) (nomark _)))))
theorem ok__law_right (T : Txt K mg base cl) (F__law_thing : Fn P w K mg base cl "_law_thing" ["_law_rng_here"] 3 m__law_thing) (F__law_placed : Fn P w K mg base cl "_law_placed" ["_law_a", "_law_b", "_law_c"] 2 m__law_placed) (F__law_made_right : Fn P w K mg base cl "_law_made_right" ["_law_made", "_law_a", "_law_b", "_law_c"] 3 m__law_made_right) (F__law_named : Fn P w K mg base cl "_law_named" ["_law_a", "_law_b", "_law_c"] 2 m__law_named) (lk : K.lookup f = some ⟨oc, od, .func (PySem.W.fnOf "_law_right" "_law_right" (defArgs (top 51)) (defBody (top 51)) (defScope (top 51)) .none kV doc pm an cdv ct), osl⟩) (hcd : PySem.W.codeIn K cdv "_law_right" = true) :
    GnOk P w K mg base 4 f (PySem.W.fnOf "_law_right" "_law_right" (defArgs (top 51)) (defBody (top 51)) (defScope (top 51)) .none kV doc pm an cdv ct) ["_law_rng_here"] (spM ⟨K, cl⟩ 1 m__law_right) :=
  fn_t (N := ["_law_rng_here", "_law_other", "_law_a", "_law_b", "_law_c", "_law_kept", "_law_placed_here"]) (k := 3) (st := top 51) lk hcd ⟨rfl, rfl, rfl, by decide +kernel, rfl, by decide +kernel, by decide +kernel⟩ fun A outer s H E C =>
    have S := C.toCt.seen (U := [0, 2, 3, 4, 6, 1, 5]) (L := [1]) (G := ["_law_thing", "repr", "_law_placed", "_law_made_right", "_law_named"]) (by decide +kernel)
    dss_cons (s_par3 C 2 3 4 (da_cons rfl (e_call C.toCt S 0 F__law_thing (da_cons rfl (v C.toCt S 0) (da_nil))) (da_cons rfl (e_call C.toCt S 0 F__law_thing (da_cons rfl (v C.toCt S 0) (da_nil))) (da_cons rfl (e_call C.toCt S 0 F__law_thing (da_cons rfl (v C.toCt S 0) (da_nil))) (da_nil)))) (by decide +kernel) (by decide +kernel) (by decide +kernel) rfl) (dss_cons (s_par2 C 5 6 (da_cons rfl (e_blt C.toCt S 1 (c_repr C.toCt.grd C.toCt.room T.hS T.hSK) (T.nb 11 (by decide)) bt_repr (da_cons rfl (de_lst (da_cons rfl (v C.toCt S 2) (da_cons rfl (v C.toCt S 3) (da_cons rfl (v C.toCt S 4) (da_nil))))) (da_nil))) (da_cons rfl (e_call C.toCt S 2 F__law_placed (da_cons rfl (v C.toCt S 2) (da_cons rfl (v C.toCt S 3) (da_cons rfl (v C.toCt S 4) (da_nil))))) (da_nil))) (by decide +kernel) (by decide +kernel) rfl) (dss_cons (ds_if (PW.pt (dw_or (dt_not (dt_tru rfl (e_call C.toCt S 3 F__law_made_right (da_cons rfl (v C.toCt S 6) (da_cons rfl (v C.toCt S 2) (da_cons rfl (v C.toCt S 3) (da_cons rfl (v C.toCt S 4) (da_nil)))))))) (dw_or1 (dt_not (dt_tru rfl (e_call C.toCt S 3 F__law_made_right (da_cons rfl (e_call C.toCt S 4 F__law_named (da_cons rfl (v C.toCt S 2) (da_cons rfl (v C.toCt S 3) (da_cons rfl (v C.toCt S 4) (da_nil))))) (da_cons rfl (v C.toCt S 2) (da_cons rfl (v C.toCt S 3) (da_cons rfl (v C.toCt S 4) (da_nil))))))))))) (dss_one (ds_ret (de_bl))) (dss_nil)) (dss_cons (s_set C S 1 (e_call C.toCt S 2 F__law_placed (da_cons rfl (v C.toCt S 4) (da_cons rfl (v C.toCt S 2) (da_cons rfl (v C.toCt S 3) (da_nil)))))) (dss_one (ds_ret (de_and (e_call C.toCt S 3 F__law_made_right (da_cons rfl (v C.toCt S 1) (da_cons rfl (v C.toCt S 4) (da_cons rfl (v C.toCt S 2) (da_cons rfl (v C.toCt S 3) (da_nil)))))) (de_and (e_call C.toCt S 3 F__law_made_right (da_cons rfl (v C.toCt S 6) (da_cons rfl (v C.toCt S 2) (da_cons rfl (v C.toCt S 3) (da_cons rfl (v C.toCt S 4) (da_nil)))))) (de_one (de_cmp (o_eqP C.toCt.room.units) (e_blt C.toCt S 1 (c_repr C.toCt.grd C.toCt.room T.hS T.hSK) (T.nb 11 (by decide)) bt_repr (da_cons rfl (de_lst (da_cons rfl (v C.toCt S 2) (da_cons rfl (v C.toCt S 3) (da_cons rfl (v C.toCt S 4) (da_nil))))) (da_nil))) (v C.toCt S 5) (nomark _))))))))))
theorem ok_law (T : Txt K mg base cl) (F__law_right : Fn P w K mg base cl "_law_right" ["_law_rng_here"] 4 m__law_right) (F__law_rng : Fn P w K mg base cl "_law_rng" ["_law_script", "_law_spot"] 1 m__law_rng) (lk : K.lookup f = some ⟨oc, od, .func (PySem.W.fnOf "law" "law" (defArgs (top 52)) (defBody (top 52)) (defScope (top 52)) .none kV doc pm an cdv ct), osl⟩) (hcd : PySem.W.codeIn K cdv "law" = true) :
    GnOk P w K mg base 5 f (PySem.W.fnOf "law" "law" (defArgs (top 52)) (defBody (top 52)) (defScope (top 52)) .none kV doc pm an cdv ct) ["_law_script"] (spM ⟨K, cl⟩ 1 m_law) :=
  fn_t (N := ["_law_script", "_law_k"]) (k := 4) (st := top 52) lk hcd ⟨rfl, rfl, rfl, by decide +kernel, rfl, by decide +kernel, by decide +kernel⟩ fun A outer s H E C =>
    have S := C.toCt.seen (U := [0]) (L := []) (G := ["all", "range", "max", "min", "len"]) (by decide +kernel)
    dss_one (ds_ret (e_blt C.toCt S 0 (c_all C.toCt.calm) (T.nb 14 (by decide)) bt_all (da_cons rfl (e_lc1 C.toCt 1 (blkOk_by (by decide +kernel)) (i_rng1 C.toCt S 1 (T.nb 6 (by decide)) (da_cons rfl (e_blt C.toCt S 2 (c_max2 C.toCt.calm) (T.nb 2 (by decide)) bt_max (da_cons rfl (de_int) (da_cons rfl (e_blt C.toCt S 3 (c_min2 C.toCt.calm) (T.nb 13 (by decide)) bt_min (da_cons rfl (de_int) (da_cons rfl (e_blt C.toCt S 4 c_len (T.nb 0 (by decide)) bt_len (da_cons rfl (v C.toCt S 0) (da_nil))) (da_nil)))) (da_nil)))) (da_nil))) (fun _ _ _ _ _ _ => dts_nil) (fun _ _ _ _ _ B1 => have T1 := B1.seen (U := [0, 1]) (L := []) (G := ["_law_right", "_law_rng"]) (by decide +kernel); e_call B1 T1 0 F__law_right (da_cons rfl (e_call B1 T1 1 F__law_rng (da_cons rfl (v B1 T1 0) (da_cons rfl (v B1 T1 1) (da_nil)))) (da_nil)))) (da_nil))))
theorem fn__law_rng (hg : mg "_law_rng" = some (.ref f)) (hk : PySem.W.keepIn K (.ref f) = true) (G : GnOk P w K mg base 1 f (PySem.W.fnOf "_law_rng" "_law_rng" (defArgs (top 42)) (defBody (top 42)) (defScope (top 42)) .none kV doc pm an cdv ct) ["_law_script", "_law_spot"] (spM ⟨K, cl⟩ 2 m__law_rng)) : Fn P w K mg base cl "_law_rng" ["_law_script", "_law_spot"] 1 m__law_rng :=
  ⟨_, _, hg, hk, G, Binds.all fun us hl => match us, hl with | [_, _], _ => rfl⟩
theorem fn__law_draw (hg : mg "_law_draw" = some (.ref f)) (hk : PySem.W.keepIn K (.ref f) = true) (G : GnOk P w K mg base 1 f (PySem.W.fnOf "_law_draw" "_law_draw" (defArgs (top 43)) (defBody (top 43)) (defScope (top 43)) .none kV doc pm an cdv ct) ["_law_rng_here", "_law_many"] (spM ⟨K, cl⟩ 2 m__law_draw)) : Fn P w K mg base cl "_law_draw" ["_law_rng_here", "_law_many"] 1 m__law_draw :=
  ⟨_, _, hg, hk, G, Binds.all fun us hl => match us, hl with | [_, _], _ => rfl⟩
theorem fn__law_choice (hg : mg "_law_choice" = some (.ref f)) (hk : PySem.W.keepIn K (.ref f) = true) (G : GnOk P w K mg base 2 f (PySem.W.fnOf "_law_choice" "_law_choice" (defArgs (top 44)) (defBody (top 44)) (defScope (top 44)) .none kV doc pm an cdv ct) ["_law_rng_here", "_law_some"] (spM ⟨K, cl⟩ 2 m__law_choice)) : Fn P w K mg base cl "_law_choice" ["_law_rng_here", "_law_some"] 2 m__law_choice :=
  ⟨_, _, hg, hk, G, Binds.all fun us hl => match us, hl with | [_, _], _ => rfl⟩
theorem fn__law_thing (hg : mg "_law_thing" = some (.ref f)) (hk : PySem.W.keepIn K (.ref f) = true) (G : GnOk P w K mg base 3 f (PySem.W.fnOf "_law_thing" "_law_thing" (defArgs (top 45)) (defBody (top 45)) (defScope (top 45)) .none kV doc pm an cdv ct) ["_law_rng_here"] (spM ⟨K, cl⟩ 1 m__law_thing)) : Fn P w K mg base cl "_law_thing" ["_law_rng_here"] 3 m__law_thing :=
  ⟨_, _, hg, hk, G, Binds.all fun us hl => match us, hl with | [_], _ => rfl⟩
theorem fn__law_placed (hg : mg "_law_placed" = some (.ref f)) (hk : PySem.W.keepIn K (.ref f) = true) (G : GnOk P w K mg base 2 f (PySem.W.fnOf "_law_placed" "_law_placed" (defArgs (top 46)) (defBody (top 46)) (defScope (top 46)) .none kV doc pm an cdv ct) ["_law_a", "_law_b", "_law_c"] (spM ⟨K, cl⟩ 3 m__law_placed)) : Fn P w K mg base cl "_law_placed" ["_law_a", "_law_b", "_law_c"] 2 m__law_placed :=
  ⟨_, _, hg, hk, G, Binds.all fun us hl => match us, hl with | [_, _, _], _ => rfl⟩
theorem fn__law_named (hg : mg "_law_named" = some (.ref f)) (hk : PySem.W.keepIn K (.ref f) = true) (G : GnOk P w K mg base 2 f (PySem.W.fnOf "_law_named" "_law_named" (defArgs (top 47)) (defBody (top 47)) (defScope (top 47)) .none kV doc pm an cdv ct) ["_law_a", "_law_b", "_law_c"] (spM ⟨K, cl⟩ 3 m__law_named)) : Fn P w K mg base cl "_law_named" ["_law_a", "_law_b", "_law_c"] 2 m__law_named :=
  ⟨_, _, hg, hk, G, Binds.all fun us hl => match us, hl with | [_, _, _], _ => rfl⟩
theorem fn__law_fields (hg : mg "_law_fields" = some (.ref f)) (hk : PySem.W.keepIn K (.ref f) = true) (G : GnOk P w K mg base 1 f (PySem.W.fnOf "_law_fields" "_law_fields" (defArgs (top 48)) (defBody (top 48)) (defScope (top 48)) .none kV doc pm an cdv ct) ["_law_made"] (spM ⟨K, cl⟩ 1 m__law_fields)) : Fn P w K mg base cl "_law_fields" ["_law_made"] 1 m__law_fields :=
  ⟨_, _, hg, hk, G, Binds.all fun us hl => match us, hl with | [_], _ => rfl⟩
theorem fn__law_truths (hg : mg "_law_truths" = some (.ref f)) (hk : PySem.W.keepIn K (.ref f) = true) (G : GnOk P w K mg base 2 f (PySem.W.fnOf "_law_truths" "_law_truths" (defArgs (top 49)) (defBody (top 49)) (defScope (top 49)) .none kV doc pm an cdv ct) ["_law_made"] (spM ⟨K, cl⟩ 1 m__law_truths)) : Fn P w K mg base cl "_law_truths" ["_law_made"] 2 m__law_truths :=
  ⟨_, _, hg, hk, G, Binds.all fun us hl => match us, hl with | [_], _ => rfl⟩
theorem fn__law_made_right (hg : mg "_law_made_right" = some (.ref f)) (hk : PySem.W.keepIn K (.ref f) = true) (G : GnOk P w K mg base 3 f (PySem.W.fnOf "_law_made_right" "_law_made_right" (defArgs (top 50)) (defBody (top 50)) (defScope (top 50)) .none kV doc pm an cdv ct) ["_law_made", "_law_a", "_law_b", "_law_c"] (spM ⟨K, cl⟩ 4 m__law_made_right)) : Fn P w K mg base cl "_law_made_right" ["_law_made", "_law_a", "_law_b", "_law_c"] 3 m__law_made_right :=
  ⟨_, _, hg, hk, G, Binds.all fun us hl => match us, hl with | [_, _, _, _], _ => rfl⟩
theorem fn__law_right (hg : mg "_law_right" = some (.ref f)) (hk : PySem.W.keepIn K (.ref f) = true) (G : GnOk P w K mg base 4 f (PySem.W.fnOf "_law_right" "_law_right" (defArgs (top 51)) (defBody (top 51)) (defScope (top 51)) .none kV doc pm an cdv ct) ["_law_rng_here"] (spM ⟨K, cl⟩ 1 m__law_right)) : Fn P w K mg base cl "_law_right" ["_law_rng_here"] 4 m__law_right :=
  ⟨_, _, hg, hk, G, Binds.all fun us hl => match us, hl with | [_], _ => rfl⟩
theorem fn_law (hg : mg "law" = some (.ref f)) (hk : PySem.W.keepIn K (.ref f) = true) (G : GnOk P w K mg base 5 f (PySem.W.fnOf "law" "law" (defArgs (top 52)) (defBody (top 52)) (defScope (top 52)) .none kV doc pm an cdv ct) ["_law_script"] (spM ⟨K, cl⟩ 1 m_law)) : Fn P w K mg base cl "law" ["_law_script"] 5 m_law :=
  ⟨_, _, hg, hk, G, Binds.all fun us hl => match us, hl with | [_], _ => rfl⟩
end
end K19

set_option Elab.async false
set_option linter.all false
set_option autoImplicit false
set_option maxRecDepth 100000
/-! k19: the mathematics -/
namespace K19
open PySem L2 DL

def menu : List D := [.non, .bl true, .int 0, .int (-1), .int (10 ^ 20), .str "", .str "ab", .tup [], .tup [.int 1, .lst [.int 2]], .lst [.int 1], .dic [(.inr "a", .int 1)], .lst [.non], .bl false, .int 1]
theorem drawC : DrawC 48271 12227 2147483587 2147483549 13 := ⟨by decide, by decide, by decide +kernel⟩
theorem thing_ok {μ : Store} {n : Nat} (h : Pot μ n) : ∃ d μ', m__law_thing [.loc n] μ = .ok d μ' ∧ d ∈ menu ∧ Pot μ' n := by
  obtain ⟨d, μ', e, hd, hP⟩ := pot_choice drawC (xs := menu) h (by decide)
  refine ⟨d, μ', run_rt (sv_ret (ev_call (ev_cons ev_var (ev_cons (x := .lst menu) ?_ ev_nil)) e)), hd, hP⟩
  rfl
/-- data whose repr is short -/
def Sh (d : D) : Prop := ∃ p, toPyR d = some p ∧ p.showable = true ∧ p.depth ≤ 50 ∧ p.shown.length ≤ 50 ∧ PyData.strOk p.shown = true
theorem sh_menu : ∀ d ∈ menu, Sh d := by
  intro d hd
  simp only [menu, List.mem_cons, List.not_mem_nil, or_false] at hd
  rcases hd with rfl | rfl | rfl | rfl | rfl | rfl | rfl | rfl | rfl | rfl | rfl | rfl | rfl | rfl
  all_goals exact ⟨_, rfl, by decide +kernel, by decide +kernel, by decide +kernel, by decide +kernel⟩
theorem textFrom_up {B : Nat} : ∀ (ts : List Str) (k : Nat) (acc : Str), (∀ t ∈ ts, t.length ≤ B) → (textFrom k acc ts).length ≤ acc.length + ts.length * (B + 2)
  | [], k, acc, _ => Nat.le_add_right _ _
  | t :: r, k, acc, h => by
    have h1 := textFrom_up r (k + 1) (acc ++ (if k > 0 then ", " else "" : String) ++ t) fun u hu => h u (List.mem_cons_of_mem _ hu)
    have e : (acc ++ (if k > 0 then ", " else "" : String) ++ t).length = acc.length + (if k > 0 then 2 else 0) + t.length := by
      rw [strLen_append, strLen_append]
      split <;> rfl
    rw [e] at h1
    have h2 := h t List.mem_cons_self
    show (textFrom (k + 1) _ r).length ≤ _
    rw [List.length_cons, Nat.succ_mul]
    refine Nat.le_trans h1 ?_
    split <;> omega
theorem strOk_app {a b : Str} (h1 : PyData.strOk a = true) (h2 : PyData.strOk b = true) : PyData.strOk (a ++ b) = true := by
  unfold PyData.strOk at *
  show (a.cps ++ b.cps).all _ = true
  rw [Array.all_append, h1, h2]
  rfl
theorem textFrom_ok : ∀ (ts : List Str) (k : Nat) (acc : Str), PyData.strOk acc = true → (∀ t ∈ ts, PyData.strOk t = true) → PyData.strOk (textFrom k acc ts) = true
  | [], k, acc, h, _ => h
  | t :: r, k, acc, h, ht => by
    refine textFrom_ok r (k + 1) (acc ++ (if k > 0 then ", " else "" : String) ++ t) (strOk_app (strOk_app h ?_) (ht t List.mem_cons_self)) fun u hu => ht u (List.mem_cons_of_mem _ hu)
    split <;> decide +kernel
/-! ### the errors made -/
def one (k : Nat) (f : Str) (a : D) : D := .exc k [(f, a)]
def made (a b c : D) : List D :=
  one 0 "value" a :: one 1 "value" a :: one 2 "value" a :: one 3 "value" a :: one 4 "value" a :: one 5 "value" a :: one 6 "value" a :: one 7 "value" a :: one 8 "value" a :: one 9 "value" a :: one 10 "value" a ::
  one 11 "value" a :: one 12 "value" a :: one 13 "value" a :: one 14 "value" a :: one 15 "value" a :: one 16 "position" a :: one 17 "position" a :: one 18 "position" a :: one 19 "position" a :: one 20 "position" a :: one 21 "position" a ::
  one 22 "key" a :: one 23 "key" a :: one 24 "part" a :: one 25 "line" a :: one 26 "letter" a :: .exc 27 [("position", b), ("part", a)] :: .exc 28 [("position", c), ("letter", b), ("mode", a)] :: .exc 29 [("limit", b), ("kind", a)] ::
  one 30 "value" a :: one 31 "value" a :: one 32 "value" a :: one 33 "value" a :: one 34 "name" a :: .exc 35 [] :: .exc 36 [] :: []
theorem placed_ok (a b c : D) (μ : Store) : m__law_placed [a, b, c] μ = .ok (.lst (made a b c)) μ := by kernel_rfl
theorem named_ok (a b c : D) (μ : Store) : m__law_named [a, b, c] μ = .ok (.lst (made a b c)) μ := by kernel_rfl
def want (a b c : D) : List D := List.replicate 32 a ++ (List.replicate 2 (D.lst [a, b]) ++ [D.lst [a, b, c]])
theorem fields_ok (a b c : D) (μ : Store) : m__law_fields [.lst (made a b c)] μ = .ok (.lst (want a b c)) μ := by kernel_rfl
/-! ### repr -/
def ShB (m B : Nat) (d : D) : Prop := ∃ p, toPyR d = some p ∧ p.showable = true ∧ p.depth ≤ m ∧ p.shown.length ≤ B ∧ PyData.strOk p.shown = true
theorem shb_list {m B : Nat} : ∀ {xs : List D}, (∀ x ∈ xs, ShB m B x) → ∃ ps, toPyRs xs = some ps ∧ PyData.showableAll ps = true ∧ PyData.depthAll ps ≤ m ∧ (∀ t ∈ PyData.shownAll ps, t.length ≤ B ∧ PyData.strOk t = true) ∧ (PyData.shownAll ps).length = xs.length
  | [], _ => ⟨[], rfl, rfl, Nat.zero_le _, (fun t h => by simp [PyData.shownAll] at h), rfl⟩
  | x :: xs, h => by
    obtain ⟨p, e1, e2, e3, e4⟩ := h x List.mem_cons_self
    obtain ⟨ps, h1, h2, h3, h4, h5⟩ := shb_list (xs := xs) fun y hy => h y (List.mem_cons_of_mem _ hy)
    refine ⟨p :: ps, by simp only [toPyRs, e1, h1], ?_, ?_, ?_, ?_⟩
    · show (p.showable && PyData.showableAll ps) = true
      rw [e2, h2]
      rfl
    · show max p.depth (PyData.depthAll ps) ≤ m
      omega
    · intro t ht
      rcases List.mem_cons.mp (show t ∈ p.shown :: PyData.shownAll ps from ht) with e | ht
      · rw [e]
        exact e4
      · exact h4 t ht
    · show (PyData.shownAll ps).length + 1 = _
      rw [h5]
      rfl
theorem shb_lst {m B : Nat} {xs : List D} (h : ∀ x ∈ xs, ShB m B x) : ShB (m + 1) (2 + xs.length * (B + 2)) (.lst xs) := by
  obtain ⟨ps, h1, h2, h3, h4, h5⟩ := shb_list h
  refine ⟨.list ps, by simp only [toPyR, h1, Option.map_some], h2, by show PyData.depthAll ps + 1 ≤ _; omega, ?_, strOk_app (textFrom_ok (PyData.shownAll ps) 0 "[" (by decide +kernel) fun t ht => (h4 t ht).2) (by decide +kernel)⟩
  show (listText (PyData.shownAll ps)).length ≤ _
  unfold listText
  rw [strLen_append]
  have := textFrom_up (PyData.shownAll ps) 0 "[" fun t ht => (h4 t ht).1
  rw [h5] at this
  have e1 : Str.length "[" = 1 := by decide +kernel
  have e2 : Str.length "]" = 1 := by decide +kernel
  rw [e1] at this
  rw [e2]
  omega
theorem ShB.up {m m' B B' : Nat} {d : D} (h : ShB m B d) (h1 : m ≤ m') (h2 : B ≤ B') : ShB m' B' d := by
  obtain ⟨p, e1, e2, e3, e4, e5⟩ := h
  exact ⟨p, e1, e2, by omega, by omega, e5⟩
theorem repr_lst {xs : List D} {m B : Nat} (h : ShB m B (.lst xs)) (h1 : m ≤ 100) (h2 : B ≤ sizeLine) : ∃ t, PyData.strOk t = true ∧ ∀ μ, reprB [.lst xs] μ = some (.str t) := by
  obtain ⟨p, e1, e2, e3, e4, e5⟩ := h
  refine ⟨p.shown, e5, fun μ => ?_⟩
  show reprB.rp (toPyR (.lst xs)) = _
  rw [e1]
  show (if p.showable = true ∧ p.depth ≤ 100 ∧ p.shown.length ≤ sizeLine then some (D.str p.shown) else none) = _
  rw [if_pos ⟨e2, by omega, by omega⟩]
theorem shb_want {a b c : D} (ha : Sh a) (hb : Sh b) (hc : Sh c) : ∃ t, PyData.strOk t = true ∧ ∀ μ, reprB [.lst (want a b c)] μ = some (.str t) := by
  have ab : ShB 51 158 (.lst [a, b]) := (shb_lst (m := 50) (B := 50) (xs := [a, b]) fun x hx => by
    simp only [List.mem_cons, List.not_mem_nil, or_false] at hx
    rcases hx with rfl | rfl
    · exact ha
    · exact hb).up (by decide) (by simp)
  have abc : ShB 51 158 (.lst [a, b, c]) := (shb_lst (m := 50) (B := 50) (xs := [a, b, c]) fun x hx => by
    simp only [List.mem_cons, List.not_mem_nil, or_false] at hx
    rcases hx with rfl | rfl | rfl
    · exact ha
    · exact hb
    · exact hc).up (by decide) (by simp)
  have a' : ShB 51 158 a := ShB.up (m := 50) (B := 50) ha (by decide) (by decide)
  refine repr_lst (shb_lst (m := 51) (B := 158) fun x hx => ?_) (by decide) (by simp [want, sizeLine_eq])
  simp only [want, List.mem_append, List.mem_replicate, List.mem_cons, List.not_mem_nil, or_false] at hx
  rcases hx with ⟨_, rfl⟩ | ⟨_, rfl⟩ | rfl
  · exact a'
  · exact ab
  · exact abc
theorem shb_abc {a b c : D} (ha : Sh a) (hb : Sh b) (hc : Sh c) : ∃ t, PyData.strOk t = true ∧ ∀ μ, reprB [.lst [a, b, c]] μ = some (.str t) := by
  refine repr_lst (shb_lst (m := 50) (B := 50) (xs := [a, b, c]) fun x hx => ?_) (by decide) (by simp [sizeLine_eq])
  simp only [List.mem_cons, List.not_mem_nil, or_false] at hx
  rcases hx with rfl | rfl | rfl
  · exact ha
  · exact hb
  · exact hc
theorem shaped_str {t : Str} (h : PyData.strOk t = true) : SeqAt.shaped (.str t) = true := by simp [SeqAt.shaped, PyData.canLay0, PyData.depth, h]
theorem eqv_str (t : Str) : PyData.eqv (.str t) (.str t) = true := by simp [PyData.eqv]
theorem ne_str {t : Str} (h : PyData.strOk t = true) (μ : Store) : neP (.str t) (.str t) μ = some (.bl false) := by
  show (if SeqAt.shaped (.str t) = true ∧ SeqAt.shaped (.str t) = true then some (D.bl (!PyData.eqv (.str t) (.str t))) else none) = _
  rw [eqv_str, if_pos ⟨shaped_str h, shaped_str h⟩]
  all_goals rfl
theorem eq_str {t : Str} (h : PyData.strOk t = true) (μ : Store) : eqP (.str t) (.str t) μ = some (.bl true) := by
  show (if SeqAt.shaped (.str t) = true ∧ SeqAt.shaped (.str t) = true then some (D.bl (PyData.eqv (.str t) (.str t))) else none) = _
  rw [eqv_str, if_pos ⟨shaped_str h, shaped_str h⟩]
  all_goals rfl
theorem made_ok {a b c : D} (ha : Sh a) (hb : Sh b) (hc : Sh c) (μ : Store) : m__law_made_right [.lst (made a b c), a, b, c] μ = .ok (.bl true) μ := by
  obtain ⟨t, hok, ht⟩ := shb_want ha hb hc
  refine run_rt (sv_seq (sv_ifF (ev_isB (ev_bin (ev_blt (ev_cons (ev_call (ev_cons ev_var ev_nil) (fields_ok a b c μ)) ev_nil) (ht μ)) (ev_blt (ev_cons (x := .lst (want a b c)) ?_ ev_nil) (ht μ)) (ne_str hok μ))) sv_next) ?_)
  · kernel_rfl
  · kernel_rfl
theorem right_ok {μ : Store} {n : Nat} (h : Pot μ n) : ∃ μ', m__law_right [.loc n] μ = .ok (.bl true) μ' := by
  obtain ⟨a, μ1, ea, ha, h1⟩ := thing_ok h
  obtain ⟨b, μ2, eb, hb, h2⟩ := thing_ok h1
  obtain ⟨c, μ3, ec, hc, h3⟩ := thing_ok h2
  have sa := sh_menu a ha
  have sb := sh_menu b hb
  have sc := sh_menu c hc
  obtain ⟨t, hok, ht⟩ := shb_abc sa sb sc
  refine ⟨μ3, run_rt (sv_seq (sv_par3 (x := a) (y := b) (d := c) (ev_cons (ev_call (ev_cons ev_var ev_nil) ea) (ev_cons (ev_call (ev_cons ev_var ev_nil) eb) (ev_cons (ev_call (ev_cons ev_var ev_nil) ec) ev_nil)))) ?_)⟩
  refine sv_seq (sv_par2 (x := .str t) (y := .lst (made a b c)) (ev_cons (ev_blt (ev_cons (ev_lst (ev_cons ev_var (ev_cons ev_var (ev_cons ev_var ev_nil)))) ev_nil) (ht μ3)) (ev_cons (ev_call (ev_cons ev_var (ev_cons ev_var (ev_cons ev_var ev_nil))) (placed_ok a b c μ3)) ev_nil))) ?_
  have t1 : ∀ {ρ : DL.Env} {δs : DenA} {x y z : D} {μ : Store}, Sh x → Sh y → Sh z → δs ρ μ = .ok [.lst (made x y z), x, y, z] μ → dCallK 4 0 (fun ds _ => ds) m__law_made_right δs dNil ρ μ = .ok (.bl true) μ := fun {ρ δs x y z μ} hx hy hz h => ev_call h (made_ok hx hy hz μ)
  refine sv_seq (sv_ifF (ev_orF (ev_notT (ev_tru (t1 sa sb sc (ev_cons ev_var (ev_cons ev_var (ev_cons ev_var (ev_cons ev_var ev_nil))))) rfl))
    (ev_notT (ev_tru (t1 sa sb sc (ev_cons (ev_call (ev_cons ev_var (ev_cons ev_var (ev_cons ev_var ev_nil))) (named_ok a b c μ3)) (ev_cons ev_var (ev_cons ev_var (ev_cons ev_var ev_nil))))) rfl))) sv_next) ?_
  refine sv_seq (sv_set (ev_call (ev_cons ev_var (ev_cons ev_var (ev_cons ev_var ev_nil))) (placed_ok c a b μ3))) ?_
  exact sv_ret (ev_andV (t1 sc sa sb (ev_cons ev_var (ev_cons ev_var (ev_cons ev_var (ev_cons ev_var ev_nil))))) (ev_andV (t1 sa sb sc (ev_cons ev_var (ev_cons ev_var (ev_cons ev_var (ev_cons ev_var ev_nil)))))
    (ev_bin (ev_blt (ev_cons (ev_lst (ev_cons ev_var (ev_cons ev_var (ev_cons ev_var ev_nil)))) ev_nil) (ht μ3)) ev_var (eq_str hok μ3))))
theorem bools_yes : ∀ n : Nat, bools (List.replicate n (.bl true)) = some (List.replicate n true)
  | 0 => rfl
  | n + 1 => by
    rw [List.replicate_succ, List.replicate_succ]
    show (bools (List.replicate n (.bl true))).map _ = _
    rw [bools_yes n]
    rfl
theorem turns {ns : List Int} {ρ : DL.Env} (hρ : ρ = [some (D.scr (ns.map D.int)), none]) : ∀ (is : List Nat) (j : Nat) (μ : Store), (∀ i ∈ is, i < 1000) → j + is.length ≤ 1000 →
    ∃ μ', lcL (vName 1) tYesD (dCallK 1 0 (fun ds _ => ds) m__law_right (dCons (dCallK 2 0 (fun ds _ => ds) m__law_rng (dCons (dVar 0) (dCons (dVar 1) (dNil))) dNil) (dNil)) dNil) ρ (is.map fun i : Nat => D.int (0 + ((i : Nat) : Int))) (List.replicate j (.bl true)) μ = .ok (List.replicate (j + is.length) (.bl true)) μ'
  | [], j, μ, _, _ => ⟨μ, rfl⟩
  | i :: is, j, μ, hi, hl => by
    obtain ⟨μ1, e1, hP⟩ := rng_pot (ns := ns) (hi i List.mem_cons_self) μ
    obtain ⟨μ2, e2⟩ := right_ok hP
    obtain ⟨μ3, e3⟩ := turns hρ is (j + 1) μ2 (fun k hk => hi k (List.mem_cons_of_mem _ hk)) (by rw [List.length_cons] at hl; omega)
    refine ⟨μ3, ?_⟩
    have c : dCallK 1 0 (fun ds _ => ds) m__law_right (dCons (dCallK 2 0 (fun ds _ => ds) m__law_rng (dCons (dVar 0) (dCons (dVar 1) (dNil))) dNil) (dNil)) dNil (ρ.set 1 (some (.int (0 + (i : Int))))) μ = .ok (.bl true) μ2 := by
      subst hρ
      rw [Int.zero_add]
      exact ev_call (ev_cons (ev_call (ev_cons ev_var (ev_cons ev_var ev_nil)) e1) ev_nil) e2
    have hs : (List.replicate j (D.bl true)).length < sizeLine := by
      rw [List.length_replicate, sizeLine_eq]
      omega
    have er : List.replicate j (D.bl true) ++ [D.bl true] = List.replicate (j + 1) (.bl true) := by
      rw [List.replicate_succ']
    have el : j + (i :: is).length = j + 1 + is.length := by
      rw [List.length_cons]
      omega
    rw [List.map_cons, el]
    simp only [lcL, vName, tYesD, noX, Res.bind, if_true, c, if_pos hs, er, e3]
theorem law_yes : ∀ ns : List Int, ns.length ≤ 63 → (∀ z ∈ ns, Builtin.Int.intBits z ≤ 1048576) → ∃ μ, m_law [.scr (ns.map D.int)] [] = .ok (.bl true) μ := by
  intro ns hn _
  obtain ⟨n, en, hlt⟩ : ∃ n : Nat, dBlt max2B (dCons (dC (.int 1)) (dCons (dBlt min2B (dCons (dC (.int 4)) (dCons (dBlt lenB (dCons (dVar 0) (dNil))) (dNil)))) (dNil))) [some (.scr (ns.map D.int)), none] [] = .ok (.int (n : Int)) [] ∧ n < 1000 := by
    obtain ⟨z, hz, h0, h1⟩ : ∃ z : Int, z = (if (if (ns.length : Int) < 4 then (ns.length : Int) else 4) > 1 then (if (ns.length : Int) < 4 then (ns.length : Int) else 4) else 1) ∧ 0 ≤ z ∧ z < 1000 := by
      refine ⟨_, rfl, ?_, ?_⟩ <;> split <;> split <;> omega
    obtain ⟨n, rfl⟩ : ∃ n : Nat, z = (n : Int) := ⟨z.toNat, by omega⟩
    refine ⟨n, ?_, by omega⟩
    rw [hz]
    exact ev_blt (ev_cons ev_c (ev_cons (ev_blt (ev_cons ev_c (ev_cons (ev_blt (ev_cons ev_var ev_nil) (d := .int (ns.length : Int)) (by simp [lenB, asS])) ev_nil)) rfl) ev_nil)) rfl
  obtain ⟨μ, e⟩ := turns (ns := ns) rfl (List.range n) 0 [] (fun i hi => by have := List.mem_range.mp hi; omega) (by rw [List.length_range]; omega)
  rw [List.length_range, Nat.zero_add] at e
  refine ⟨μ, run_rt (sv_ret (ev_blt (ev_cons (ev_lc (items := intsD 0 n) ?_ e) ev_nil) ?_))⟩
  · have es : startD 2 [D.scr (ns.map D.int)] = [some (.scr (ns.map D.int)), none] := rfl
    rw [es]
    unfold DL.iRng1
    simp only [dCons, en, Res.bind, dNil]
    rw [if_pos ⟨by omega, by omega⟩]
    rfl
  · show (bools (List.replicate n (.bl true))).map _ = _
    rw [bools_yes]
    simp
end K19

set_option Elab.async false
set_option linter.all false
set_option autoImplicit false
set_option maxRecDepth 100000
set_option maxHeartbeats 4000000
/-! k19: what the top has left -/
namespace K19
open PySem L2 DL
theorem shp_0 : Shp (inClass (top 2) 0) ["value"] ["value"] [0] :=
  ⟨rfl, rfl, rfl, rfl, rfl, by decide +kernel, by decide +kernel, by decide +kernel, by decide +kernel, by decide +kernel, by decide, by decide, fun _ _ _ _ _ _ _ _ _ us h => match us, h with | [_], _ => rfl, fun _ _ _ _ _ _ _ _ _ ws h => match ws, h with | [_], _ => rfl, rfl⟩
theorem shp_1 : Shp (inClass (top 3) 0) ["value"] ["value"] [0] :=
  ⟨rfl, rfl, rfl, rfl, rfl, by decide +kernel, by decide +kernel, by decide +kernel, by decide +kernel, by decide +kernel, by decide, by decide, fun _ _ _ _ _ _ _ _ _ us h => match us, h with | [_], _ => rfl, fun _ _ _ _ _ _ _ _ _ ws h => match ws, h with | [_], _ => rfl, rfl⟩
theorem shp_2 : Shp (inClass (top 4) 0) ["value"] ["value"] [0] :=
  ⟨rfl, rfl, rfl, rfl, rfl, by decide +kernel, by decide +kernel, by decide +kernel, by decide +kernel, by decide +kernel, by decide, by decide, fun _ _ _ _ _ _ _ _ _ us h => match us, h with | [_], _ => rfl, fun _ _ _ _ _ _ _ _ _ ws h => match ws, h with | [_], _ => rfl, rfl⟩
theorem shp_3 : Shp (inClass (top 5) 0) ["value"] ["value"] [0] :=
  ⟨rfl, rfl, rfl, rfl, rfl, by decide +kernel, by decide +kernel, by decide +kernel, by decide +kernel, by decide +kernel, by decide, by decide, fun _ _ _ _ _ _ _ _ _ us h => match us, h with | [_], _ => rfl, fun _ _ _ _ _ _ _ _ _ ws h => match ws, h with | [_], _ => rfl, rfl⟩
theorem shp_4 : Shp (inClass (top 6) 0) ["value"] ["value"] [0] :=
  ⟨rfl, rfl, rfl, rfl, rfl, by decide +kernel, by decide +kernel, by decide +kernel, by decide +kernel, by decide +kernel, by decide, by decide, fun _ _ _ _ _ _ _ _ _ us h => match us, h with | [_], _ => rfl, fun _ _ _ _ _ _ _ _ _ ws h => match ws, h with | [_], _ => rfl, rfl⟩
theorem shp_5 : Shp (inClass (top 12) 0) ["value"] ["value"] [0] :=
  ⟨rfl, rfl, rfl, rfl, rfl, by decide +kernel, by decide +kernel, by decide +kernel, by decide +kernel, by decide +kernel, by decide, by decide, fun _ _ _ _ _ _ _ _ _ us h => match us, h with | [_], _ => rfl, fun _ _ _ _ _ _ _ _ _ ws h => match ws, h with | [_], _ => rfl, rfl⟩
theorem shp_6 : Shp (inClass (top 13) 0) ["value"] ["value"] [0] :=
  ⟨rfl, rfl, rfl, rfl, rfl, by decide +kernel, by decide +kernel, by decide +kernel, by decide +kernel, by decide +kernel, by decide, by decide, fun _ _ _ _ _ _ _ _ _ us h => match us, h with | [_], _ => rfl, fun _ _ _ _ _ _ _ _ _ ws h => match ws, h with | [_], _ => rfl, rfl⟩
theorem shp_7 : Shp (inClass (top 14) 0) ["value"] ["value"] [0] :=
  ⟨rfl, rfl, rfl, rfl, rfl, by decide +kernel, by decide +kernel, by decide +kernel, by decide +kernel, by decide +kernel, by decide, by decide, fun _ _ _ _ _ _ _ _ _ us h => match us, h with | [_], _ => rfl, fun _ _ _ _ _ _ _ _ _ ws h => match ws, h with | [_], _ => rfl, rfl⟩
theorem shp_8 : Shp (inClass (top 17) 0) ["value"] ["value"] [0] :=
  ⟨rfl, rfl, rfl, rfl, rfl, by decide +kernel, by decide +kernel, by decide +kernel, by decide +kernel, by decide +kernel, by decide, by decide, fun _ _ _ _ _ _ _ _ _ us h => match us, h with | [_], _ => rfl, fun _ _ _ _ _ _ _ _ _ ws h => match ws, h with | [_], _ => rfl, rfl⟩
theorem shp_9 : Shp (inClass (top 19) 0) ["value"] ["value"] [0] :=
  ⟨rfl, rfl, rfl, rfl, rfl, by decide +kernel, by decide +kernel, by decide +kernel, by decide +kernel, by decide +kernel, by decide, by decide, fun _ _ _ _ _ _ _ _ _ us h => match us, h with | [_], _ => rfl, fun _ _ _ _ _ _ _ _ _ ws h => match ws, h with | [_], _ => rfl, rfl⟩
theorem shp_10 : Shp (inClass (top 20) 0) ["value"] ["value"] [0] :=
  ⟨rfl, rfl, rfl, rfl, rfl, by decide +kernel, by decide +kernel, by decide +kernel, by decide +kernel, by decide +kernel, by decide, by decide, fun _ _ _ _ _ _ _ _ _ us h => match us, h with | [_], _ => rfl, fun _ _ _ _ _ _ _ _ _ ws h => match ws, h with | [_], _ => rfl, rfl⟩
theorem shp_11 : Shp (inClass (top 21) 0) ["value"] ["value"] [0] :=
  ⟨rfl, rfl, rfl, rfl, rfl, by decide +kernel, by decide +kernel, by decide +kernel, by decide +kernel, by decide +kernel, by decide, by decide, fun _ _ _ _ _ _ _ _ _ us h => match us, h with | [_], _ => rfl, fun _ _ _ _ _ _ _ _ _ ws h => match ws, h with | [_], _ => rfl, rfl⟩
theorem shp_12 : Shp (inClass (top 24) 0) ["value"] ["value"] [0] :=
  ⟨rfl, rfl, rfl, rfl, rfl, by decide +kernel, by decide +kernel, by decide +kernel, by decide +kernel, by decide +kernel, by decide, by decide, fun _ _ _ _ _ _ _ _ _ us h => match us, h with | [_], _ => rfl, fun _ _ _ _ _ _ _ _ _ ws h => match ws, h with | [_], _ => rfl, rfl⟩
theorem shp_13 : Shp (inClass (top 26) 0) ["value"] ["value"] [0] :=
  ⟨rfl, rfl, rfl, rfl, rfl, by decide +kernel, by decide +kernel, by decide +kernel, by decide +kernel, by decide +kernel, by decide, by decide, fun _ _ _ _ _ _ _ _ _ us h => match us, h with | [_], _ => rfl, fun _ _ _ _ _ _ _ _ _ ws h => match ws, h with | [_], _ => rfl, rfl⟩
theorem shp_14 : Shp (inClass (top 28) 0) ["value"] ["value"] [0] :=
  ⟨rfl, rfl, rfl, rfl, rfl, by decide +kernel, by decide +kernel, by decide +kernel, by decide +kernel, by decide +kernel, by decide, by decide, fun _ _ _ _ _ _ _ _ _ us h => match us, h with | [_], _ => rfl, fun _ _ _ _ _ _ _ _ _ ws h => match ws, h with | [_], _ => rfl, rfl⟩
theorem shp_15 : Shp (inClass (top 29) 0) ["value"] ["value"] [0] :=
  ⟨rfl, rfl, rfl, rfl, rfl, by decide +kernel, by decide +kernel, by decide +kernel, by decide +kernel, by decide +kernel, by decide, by decide, fun _ _ _ _ _ _ _ _ _ us h => match us, h with | [_], _ => rfl, fun _ _ _ _ _ _ _ _ _ ws h => match ws, h with | [_], _ => rfl, rfl⟩
theorem shp_16 : Shp (inClass (top 15) 0) ["position"] ["position"] [0] :=
  ⟨rfl, rfl, rfl, rfl, rfl, by decide +kernel, by decide +kernel, by decide +kernel, by decide +kernel, by decide +kernel, by decide, by decide, fun _ _ _ _ _ _ _ _ _ us h => match us, h with | [_], _ => rfl, fun _ _ _ _ _ _ _ _ _ ws h => match ws, h with | [_], _ => rfl, rfl⟩
theorem shp_17 : Shp (inClass (top 16) 0) ["position"] ["position"] [0] :=
  ⟨rfl, rfl, rfl, rfl, rfl, by decide +kernel, by decide +kernel, by decide +kernel, by decide +kernel, by decide +kernel, by decide, by decide, fun _ _ _ _ _ _ _ _ _ us h => match us, h with | [_], _ => rfl, fun _ _ _ _ _ _ _ _ _ ws h => match ws, h with | [_], _ => rfl, rfl⟩
theorem shp_18 : Shp (inClass (top 18) 0) ["position"] ["position"] [0] :=
  ⟨rfl, rfl, rfl, rfl, rfl, by decide +kernel, by decide +kernel, by decide +kernel, by decide +kernel, by decide +kernel, by decide, by decide, fun _ _ _ _ _ _ _ _ _ us h => match us, h with | [_], _ => rfl, fun _ _ _ _ _ _ _ _ _ ws h => match ws, h with | [_], _ => rfl, rfl⟩
theorem shp_19 : Shp (inClass (top 22) 0) ["position"] ["position"] [0] :=
  ⟨rfl, rfl, rfl, rfl, rfl, by decide +kernel, by decide +kernel, by decide +kernel, by decide +kernel, by decide +kernel, by decide, by decide, fun _ _ _ _ _ _ _ _ _ us h => match us, h with | [_], _ => rfl, fun _ _ _ _ _ _ _ _ _ ws h => match ws, h with | [_], _ => rfl, rfl⟩
theorem shp_20 : Shp (inClass (top 23) 0) ["position"] ["position"] [0] :=
  ⟨rfl, rfl, rfl, rfl, rfl, by decide +kernel, by decide +kernel, by decide +kernel, by decide +kernel, by decide +kernel, by decide, by decide, fun _ _ _ _ _ _ _ _ _ us h => match us, h with | [_], _ => rfl, fun _ _ _ _ _ _ _ _ _ ws h => match ws, h with | [_], _ => rfl, rfl⟩
theorem shp_21 : Shp (inClass (top 25) 0) ["position"] ["position"] [0] :=
  ⟨rfl, rfl, rfl, rfl, rfl, by decide +kernel, by decide +kernel, by decide +kernel, by decide +kernel, by decide +kernel, by decide, by decide, fun _ _ _ _ _ _ _ _ _ us h => match us, h with | [_], _ => rfl, fun _ _ _ _ _ _ _ _ _ ws h => match ws, h with | [_], _ => rfl, rfl⟩
theorem shp_22 : Shp (inClass (top 9) 0) ["key"] ["key"] [0] :=
  ⟨rfl, rfl, rfl, rfl, rfl, by decide +kernel, by decide +kernel, by decide +kernel, by decide +kernel, by decide +kernel, by decide, by decide, fun _ _ _ _ _ _ _ _ _ us h => match us, h with | [_], _ => rfl, fun _ _ _ _ _ _ _ _ _ ws h => match ws, h with | [_], _ => rfl, rfl⟩
theorem shp_23 : Shp (inClass (top 10) 0) ["key"] ["key"] [0] :=
  ⟨rfl, rfl, rfl, rfl, rfl, by decide +kernel, by decide +kernel, by decide +kernel, by decide +kernel, by decide +kernel, by decide, by decide, fun _ _ _ _ _ _ _ _ _ us h => match us, h with | [_], _ => rfl, fun _ _ _ _ _ _ _ _ _ ws h => match ws, h with | [_], _ => rfl, rfl⟩
theorem shp_24 : Shp (inClass (top 7) 0) ["part"] ["part"] [0] :=
  ⟨rfl, rfl, rfl, rfl, rfl, by decide +kernel, by decide +kernel, by decide +kernel, by decide +kernel, by decide +kernel, by decide, by decide, fun _ _ _ _ _ _ _ _ _ us h => match us, h with | [_], _ => rfl, fun _ _ _ _ _ _ _ _ _ ws h => match ws, h with | [_], _ => rfl, rfl⟩
theorem shp_25 : Shp (inClass (top 27) 0) ["line"] ["line"] [0] :=
  ⟨rfl, rfl, rfl, rfl, rfl, by decide +kernel, by decide +kernel, by decide +kernel, by decide +kernel, by decide +kernel, by decide, by decide, fun _ _ _ _ _ _ _ _ _ us h => match us, h with | [_], _ => rfl, fun _ _ _ _ _ _ _ _ _ ws h => match ws, h with | [_], _ => rfl, rfl⟩
theorem shp_26 : Shp (inClass (top 30) 0) ["letter"] ["letter"] [0] :=
  ⟨rfl, rfl, rfl, rfl, rfl, by decide +kernel, by decide +kernel, by decide +kernel, by decide +kernel, by decide +kernel, by decide, by decide, fun _ _ _ _ _ _ _ _ _ us h => match us, h with | [_], _ => rfl, fun _ _ _ _ _ _ _ _ _ ws h => match ws, h with | [_], _ => rfl, rfl⟩
theorem shp_27 : Shp (inClass (top 8) 0) ["part", "position"] ["position", "part"] [1, 0] :=
  ⟨rfl, rfl, rfl, rfl, rfl, by decide +kernel, by decide +kernel, by decide +kernel, by decide +kernel, by decide +kernel, by decide, by decide, fun _ _ _ _ _ _ _ _ _ us h => match us, h with | [_, _], _ => rfl, fun _ _ _ _ _ _ _ _ _ ws h => match ws, h with | [_, _], _ => rfl, rfl⟩
theorem shp_28 : Shp (inClass (top 11) 0) ["mode", "letter", "position"] ["position", "letter", "mode"] [2, 1, 0] :=
  ⟨rfl, rfl, rfl, rfl, rfl, by decide +kernel, by decide +kernel, by decide +kernel, by decide +kernel, by decide +kernel, by decide, by decide, fun _ _ _ _ _ _ _ _ _ us h => match us, h with | [_, _, _], _ => rfl, fun _ _ _ _ _ _ _ _ _ ws h => match ws, h with | [_, _, _], _ => rfl, rfl⟩
theorem shp_29 : Shp (inClass (top 31) 0) ["kind", "limit"] ["limit", "kind"] [1, 0] :=
  ⟨rfl, rfl, rfl, rfl, rfl, by decide +kernel, by decide +kernel, by decide +kernel, by decide +kernel, by decide +kernel, by decide, by decide, fun _ _ _ _ _ _ _ _ _ us h => match us, h with | [_, _], _ => rfl, fun _ _ _ _ _ _ _ _ _ ws h => match ws, h with | [_, _], _ => rfl, rfl⟩
theorem shp_30 : Shp (inClass (top 33) 0) ["value"] ["value"] [0] :=
  ⟨rfl, rfl, rfl, rfl, rfl, by decide +kernel, by decide +kernel, by decide +kernel, by decide +kernel, by decide +kernel, by decide, by decide, fun _ _ _ _ _ _ _ _ _ us h => match us, h with | [_], _ => rfl, fun _ _ _ _ _ _ _ _ _ ws h => match ws, h with | [_], _ => rfl, rfl⟩
theorem shp_31 : Shp (inClass (top 34) 0) ["value"] ["value"] [0] :=
  ⟨rfl, rfl, rfl, rfl, rfl, by decide +kernel, by decide +kernel, by decide +kernel, by decide +kernel, by decide +kernel, by decide, by decide, fun _ _ _ _ _ _ _ _ _ us h => match us, h with | [_], _ => rfl, fun _ _ _ _ _ _ _ _ _ ws h => match ws, h with | [_], _ => rfl, rfl⟩
theorem shp_32 : Shp (inClass (top 35) 0) ["value"] ["value"] [0] :=
  ⟨rfl, rfl, rfl, rfl, rfl, by decide +kernel, by decide +kernel, by decide +kernel, by decide +kernel, by decide +kernel, by decide, by decide, fun _ _ _ _ _ _ _ _ _ us h => match us, h with | [_], _ => rfl, fun _ _ _ _ _ _ _ _ _ ws h => match ws, h with | [_], _ => rfl, rfl⟩
theorem shp_33 : Shp (inClass (top 36) 0) ["value"] ["value"] [0] :=
  ⟨rfl, rfl, rfl, rfl, rfl, by decide +kernel, by decide +kernel, by decide +kernel, by decide +kernel, by decide +kernel, by decide, by decide, fun _ _ _ _ _ _ _ _ _ us h => match us, h with | [_], _ => rfl, fun _ _ _ _ _ _ _ _ _ ws h => match ws, h with | [_], _ => rfl, rfl⟩
theorem shp_34 : Shp (inClass (top 38) 0) ["name"] ["name"] [0] :=
  ⟨rfl, rfl, rfl, rfl, rfl, by decide +kernel, by decide +kernel, by decide +kernel, by decide +kernel, by decide +kernel, by decide, by decide, fun _ _ _ _ _ _ _ _ _ us h => match us, h with | [_], _ => rfl, fun _ _ _ _ _ _ _ _ _ ws h => match ws, h with | [_], _ => rfl, rfl⟩
def clA (K : W.Frag) (n : Nat) : Addr := He.ga K (nms.getD n "")
def tabB (K : W.Frag) : Bool := ((List.range 37).all fun k => mroB K (clA K k) (.ref (clA K k) :: .ref (clA K (37 + fam k)) :: bmF (fam k))) && ((List.range 40).all fun j => clsOkB K (clA K j)) && decide ((List.range 40).map (clA K)).Nodup
theorem fam_lt (k : Nat) : 37 + fam k < 40 := by
  unfold fam
  split
  · decide
  · split <;> decide
theorem tab_of {K : W.Frag} (h : tabB K = true) (hx : ∀ k, k < 37 → XIs K (clA K k)) : TabX K (clA K) tab := by
  simp only [tabB, List.all_eq_true, Bool.and_eq_true, decide_eq_true_eq, List.mem_range] at h
  obtain ⟨⟨h1, h2⟩, h3⟩ := h
  have inj : ∀ i j, i < 40 → j < 40 → clA K i = clA K j → i = j := fun i j hi hj e => by
    have := (List.getElem_inj (i := i) (j := j) (h₀ := by simpa using hi) (h₁ := by simpa using hj) h3).mp (by simpa using e)
    exact this
  refine ⟨fun k j b e => ?_, fun k n b e => ?_⟩
  · by_cases hk : k < 37
    · refine ⟨hx k hk, ?_⟩
      by_cases hj : j < 40
      · rw [kit_own (h1 k hk) (h2 j hj)]
        simp only [tab, if_pos hk] at e
        by_cases hj7 : j < 37
        · rw [if_pos hj7] at e
          rw [← e]
          have n2 : ¬ clA K (37 + fam k) = clA K j := fun z => by
            have := inj _ _ (fam_lt k) hj z
            omega
          rw [decide_eq_false n2, Bool.or_false]
          by_cases ek : k = j
          · subst ek
            simp
          · rw [decide_eq_false (fun z => ek (inj _ _ (by omega) hj z))]
            simp [ek]
        · rw [if_neg hj7, if_pos hj] at e
          rw [← e]
          have n1 : ¬ clA K k = clA K j := fun z => by
            have := inj _ _ (by omega) hj z
            omega
          rw [decide_eq_false n1, Bool.false_or]
          by_cases ek : fam k + 37 = j
          · subst ek
            rw [Nat.add_comm]
            simp
          · rw [decide_eq_false (fun z => ek (by have := inj _ _ (fam_lt k) hj z; omega))]
            simp [ek]
      · simp only [tab, if_pos hk, if_neg (show ¬ j < 37 by omega), if_neg hj] at e
        cases e
    · simp only [tab, if_neg hk] at e
      cases e
  · by_cases hk : k < 37
    · refine ⟨hx k hk, ?_⟩
      have f3 : fam k = 0 ∨ fam k = 1 ∨ fam k = 2 := by
        have := fam_lt k
        omega
      by_cases n1 : n = "ValueError"
      · subst n1
        rw [kit_bas (h1 k hk) (by decide +kernel)]
        simp only [tab, if_pos hk, if_true] at e
        rw [← e]
        rcases f3 with z | z | z <;> rw [z] <;> decide +kernel
      · by_cases n2 : n = "LookupError"
        · subst n2
          rw [kit_bas (h1 k hk) (by decide +kernel)]
          simp only [tab, if_pos hk, if_true, if_neg n1] at e
          rw [← e]
          rcases f3 with z | z | z <;> rw [z] <;> decide +kernel
        · by_cases n3 : n = "RuntimeError"
          · subst n3
            rw [kit_bas (h1 k hk) (by decide +kernel)]
            simp only [tab, if_pos hk, if_true, if_neg n1, if_neg n2] at e
            rw [← e]
            rcases f3 with z | z | z <;> rw [z] <;> decide +kernel
          · simp only [tab, if_pos hk, if_neg n1, if_neg n2, if_neg n3] at e
            cases e
    · simp only [tab, if_neg hk] at e
      cases e
def factsB (K : W.Frag) : Bool := (nms.all fun x => decide (W.nsIn K mainGlobals x = some (some (.ref (He.ga K x))))) && (nbs.all fun x => decide (W.nsIn K mainGlobals x = some none)) && ((List.range 35).all fun n => xB K (clA K n) (He.ma K (clA K n) "__init__") (fam n) (flds.getD n [])) && x0B K (clA K 35) 2 && x0B K (clA K 36) 2 && tabB K && (match K.lookup sysModules with
  | none => true
  | some _ => false) && ["_law_rng", "_law_draw", "_law_choice", "_law_thing", "_law_placed", "_law_named", "_law_fields", "_law_truths", "_law_made_right", "_law_right", "law"].all fun x => decide (W.nsIn K mainGlobals x = some (some (.ref (He.ga K x))))
def dInit (n : Nat) : He.DefD := ⟨(nms.getD n "", some "__init__"), "__init__", nms.getD n "" ++ ".__init__", defArgs (inClass (top (ats.getD n 0)) 0), defBody (inClass (top (ats.getD n 0)) 0), defScope (inClass (top (ats.getD n 0)) 0), [], []⟩
def dFn (x : Str) (i : Nat) : He.DefD := ⟨(x, none), x, x, defArgs (top i), defBody (top i), defScope (top i), [], []⟩
def fn : List He.DefD := dFn "_law_rng" 42 :: dFn "_law_draw" 43 :: dFn "_law_choice" 44 :: dFn "_law_thing" 45 :: dFn "_law_placed" 46 :: dFn "_law_named" 47 :: dFn "_law_fields" 48 :: dFn "_law_truths" 49 :: dFn "_law_made_right" 50 :: dFn "_law_right" 51 :: dFn "law" 52 :: (List.range 35).map dInit
structure Facts (K : W.Frag) (mg : Str → Option Value) : Prop where
  gm : ∀ n, n < 40 → mg (nms.getD n "") = some (.ref (clA K n))
  nb : ∀ i, i < 15 → mg (nbs.getD i "") = none
  xb : ∀ n, n < 35 → xB K (clA K n) (He.ma K (clA K n) "__init__") (fam n) (flds.getD n []) = true
  x35 : x0B K (clA K 35) 2 = true
  x36 : x0B K (clA K 36) 2 = true
  tb : tabB K = true
  sm : ∀ o, K.lookup sysModules = some o → False
  df : ∀ x ∈ ["_law_rng", "_law_draw", "_law_choice", "_law_thing", "_law_placed", "_law_named", "_law_fields", "_law_truths", "_law_made_right", "_law_right", "law"], mg x = some (.ref (He.ga K x))
theorem mem_getD {α : Type} {l : List α} {i : Nat} {d : α} (h : i < l.length) : l.getD i d ∈ l := by
  rw [List.getD_eq_getElem?_getD, List.getElem?_eq_getElem h]
  exact List.getElem_mem h
theorem facts_of {K : W.Frag} {h : Heap} {mg : Str → Option Value} (X : K.In h) (G : h.Ns mainGlobals mg) (c : factsB K = true) : Facts K mg := by
  simp only [factsB, Bool.and_eq_true] at c
  obtain ⟨⟨⟨⟨⟨⟨⟨c1, c2⟩, c3⟩, c4⟩, c5⟩, c6⟩, c7⟩, c8⟩ := c
  rw [List.all_eq_true] at c1 c2 c3 c8
  refine ⟨fun n hn => W.mg_of X G (of_decide_eq_true (c1 _ (mem_getD hn))), fun i hi => W.mg_none_of X G (of_decide_eq_true (c2 _ (mem_getD hi))), fun n hn => c3 n (List.mem_range.mpr hn), c4, c5, c6, fun o e => ?_, fun x hx => W.mg_of X G (of_decide_eq_true (c8 x hx))⟩
  rw [e] at c7
  cases c7
section
variable {K : W.Frag} {mg : Str → Option Value} {h base : Heap}
theorem xt_at (F : Facts K mg) (c : tellB factsB fn K = wantB fn) (n : Nat) (hn : n < 35) (hf : fn[11 + n]? = some (dInit n)) : XT K (clA K n) (fam n) (flds.getD n []) (nms.getD n "" ++ ".__init__") (inClass (top (ats.getD n 0)) 0) := by
  obtain ⟨oc, od, kV, doc, pm, an, cdv, ct, osl, lk, hcd, _⟩ := def_at c (11 + n) hf rfl
  exact ⟨_, _, _, _, _, _, _, _, _, _, lk, hcd, F.xb n hn⟩
theorem is_at (F : Facts K mg) (c : tellB factsB fn K = wantB fn) : ∀ k, k < 37 → XIs K (clA K k) := fun k hk => by
  by_cases h : k < 35
  · exact (xB_of (F.xb k h)).2.1
  · rcases (show k = 35 ∨ k = 36 by omega) with rfl | rfl
    · exact (x0_of F.x35).2
    · exact (x0_of F.x36).2
theorem nof (F : Facts K mg) (c : tellB factsB fn K = wantB fn) (cs : List Nat) (f : Str) (h : (cs.all fun k => decide (k < 35 ∧ f ∈ flds.getD k [])) = true) : NoF K (clA K) cs f := fun k hk => by
  rw [List.all_eq_true] at h
  obtain ⟨h1, h2⟩ := of_decide_eq_true (h k hk)
  exact ⟨is_at F c k (by omega), (xB_of (F.xb k h1)).2.2.2.2.2 f h2⟩
theorem txt_mk (F : Facts K mg) (c : tellB factsB fn K = wantB fn) (hS : ∃ o, base.get? sysModules = some o) : Txt K mg base (clA K) := by
  refine { nb := F.nb, gm := F.gm, xp := fun n hn => ?_, xk := fun n hn => ?_, x0 := fun n hn => ?_, nf_value := ?_, nf_position := ?_, nf_key := ?_, nf_part := ?_, nf_line := ?_, nf_letter := ?_, nf_mode := ?_, nf_kind := ?_, nf_limit := ?_, nf_name := ?_, TX := tab_of F.tb (is_at F c), hS := hS, hSK := fun o z => (F.sm o z).elim }
  · exact match n, hn with
    | 0, _ => XT.xp shp_0 (xt_at F c 0 (by decide) rfl)
    | 1, _ => XT.xp shp_1 (xt_at F c 1 (by decide) rfl)
    | 2, _ => XT.xp shp_2 (xt_at F c 2 (by decide) rfl)
    | 3, _ => XT.xp shp_3 (xt_at F c 3 (by decide) rfl)
    | 4, _ => XT.xp shp_4 (xt_at F c 4 (by decide) rfl)
    | 5, _ => XT.xp shp_5 (xt_at F c 5 (by decide) rfl)
    | 6, _ => XT.xp shp_6 (xt_at F c 6 (by decide) rfl)
    | 7, _ => XT.xp shp_7 (xt_at F c 7 (by decide) rfl)
    | 8, _ => XT.xp shp_8 (xt_at F c 8 (by decide) rfl)
    | 9, _ => XT.xp shp_9 (xt_at F c 9 (by decide) rfl)
    | 10, _ => XT.xp shp_10 (xt_at F c 10 (by decide) rfl)
    | 11, _ => XT.xp shp_11 (xt_at F c 11 (by decide) rfl)
    | 12, _ => XT.xp shp_12 (xt_at F c 12 (by decide) rfl)
    | 13, _ => XT.xp shp_13 (xt_at F c 13 (by decide) rfl)
    | 14, _ => XT.xp shp_14 (xt_at F c 14 (by decide) rfl)
    | 15, _ => XT.xp shp_15 (xt_at F c 15 (by decide) rfl)
    | 16, _ => XT.xp shp_16 (xt_at F c 16 (by decide) rfl)
    | 17, _ => XT.xp shp_17 (xt_at F c 17 (by decide) rfl)
    | 18, _ => XT.xp shp_18 (xt_at F c 18 (by decide) rfl)
    | 19, _ => XT.xp shp_19 (xt_at F c 19 (by decide) rfl)
    | 20, _ => XT.xp shp_20 (xt_at F c 20 (by decide) rfl)
    | 21, _ => XT.xp shp_21 (xt_at F c 21 (by decide) rfl)
    | 22, _ => XT.xp shp_22 (xt_at F c 22 (by decide) rfl)
    | 23, _ => XT.xp shp_23 (xt_at F c 23 (by decide) rfl)
    | 24, _ => XT.xp shp_24 (xt_at F c 24 (by decide) rfl)
    | 25, _ => XT.xp shp_25 (xt_at F c 25 (by decide) rfl)
    | 26, _ => XT.xp shp_26 (xt_at F c 26 (by decide) rfl)
    | 27, _ => XT.xp shp_27 (xt_at F c 27 (by decide) rfl)
    | 28, _ => XT.xp shp_28 (xt_at F c 28 (by decide) rfl)
    | 29, _ => XT.xp shp_29 (xt_at F c 29 (by decide) rfl)
    | 30, _ => XT.xp shp_30 (xt_at F c 30 (by decide) rfl)
    | 31, _ => XT.xp shp_31 (xt_at F c 31 (by decide) rfl)
    | 32, _ => XT.xp shp_32 (xt_at F c 32 (by decide) rfl)
    | 33, _ => XT.xp shp_33 (xt_at F c 33 (by decide) rfl)
    | 34, _ => XT.xp shp_34 (xt_at F c 34 (by decide) rfl)
    | n + 35, h => absurd h (by omega)
  · exact match n, hn with
    | 0, _ => XT.xk shp_0 (xt_at F c 0 (by decide) rfl)
    | 1, _ => XT.xk shp_1 (xt_at F c 1 (by decide) rfl)
    | 2, _ => XT.xk shp_2 (xt_at F c 2 (by decide) rfl)
    | 3, _ => XT.xk shp_3 (xt_at F c 3 (by decide) rfl)
    | 4, _ => XT.xk shp_4 (xt_at F c 4 (by decide) rfl)
    | 5, _ => XT.xk shp_5 (xt_at F c 5 (by decide) rfl)
    | 6, _ => XT.xk shp_6 (xt_at F c 6 (by decide) rfl)
    | 7, _ => XT.xk shp_7 (xt_at F c 7 (by decide) rfl)
    | 8, _ => XT.xk shp_8 (xt_at F c 8 (by decide) rfl)
    | 9, _ => XT.xk shp_9 (xt_at F c 9 (by decide) rfl)
    | 10, _ => XT.xk shp_10 (xt_at F c 10 (by decide) rfl)
    | 11, _ => XT.xk shp_11 (xt_at F c 11 (by decide) rfl)
    | 12, _ => XT.xk shp_12 (xt_at F c 12 (by decide) rfl)
    | 13, _ => XT.xk shp_13 (xt_at F c 13 (by decide) rfl)
    | 14, _ => XT.xk shp_14 (xt_at F c 14 (by decide) rfl)
    | 15, _ => XT.xk shp_15 (xt_at F c 15 (by decide) rfl)
    | 16, _ => XT.xk shp_16 (xt_at F c 16 (by decide) rfl)
    | 17, _ => XT.xk shp_17 (xt_at F c 17 (by decide) rfl)
    | 18, _ => XT.xk shp_18 (xt_at F c 18 (by decide) rfl)
    | 19, _ => XT.xk shp_19 (xt_at F c 19 (by decide) rfl)
    | 20, _ => XT.xk shp_20 (xt_at F c 20 (by decide) rfl)
    | 21, _ => XT.xk shp_21 (xt_at F c 21 (by decide) rfl)
    | 22, _ => XT.xk shp_22 (xt_at F c 22 (by decide) rfl)
    | 23, _ => XT.xk shp_23 (xt_at F c 23 (by decide) rfl)
    | 24, _ => XT.xk shp_24 (xt_at F c 24 (by decide) rfl)
    | 25, _ => XT.xk shp_25 (xt_at F c 25 (by decide) rfl)
    | 26, _ => XT.xk shp_26 (xt_at F c 26 (by decide) rfl)
    | 27, _ => XT.xk shp_27 (xt_at F c 27 (by decide) rfl)
    | 28, _ => XT.xk shp_28 (xt_at F c 28 (by decide) rfl)
    | 29, _ => XT.xk shp_29 (xt_at F c 29 (by decide) rfl)
    | 30, _ => XT.xk shp_30 (xt_at F c 30 (by decide) rfl)
    | 31, _ => XT.xk shp_31 (xt_at F c 31 (by decide) rfl)
    | 32, _ => XT.xk shp_32 (xt_at F c 32 (by decide) rfl)
    | 33, _ => XT.xk shp_33 (xt_at F c 33 (by decide) rfl)
    | 34, _ => XT.xk shp_34 (xt_at F c 34 (by decide) rfl)
    | n + 35, h => absurd h (by omega)
  · exact match n, hn with
    | 35, _ => (x0_of F.x35).1
    | 36, _ => (x0_of F.x36).1
    | n + 37, h => absurd h (by omega)
  · exact nof F c cs_value "value" (by decide +kernel)
  · exact nof F c cs_position "position" (by decide +kernel)
  · exact nof F c cs_key "key" (by decide +kernel)
  · exact nof F c cs_part "part" (by decide +kernel)
  · exact nof F c cs_line "line" (by decide +kernel)
  · exact nof F c cs_letter "letter" (by decide +kernel)
  · exact nof F c cs_mode "mode" (by decide +kernel)
  · exact nof F c cs_kind "kind" (by decide +kernel)
  · exact nof F c cs_limit "limit" (by decide +kernel)
  · exact nof F c cs_name "name" (by decide +kernel)
end
theorem all_mk {P : Program} {w : World} {K : W.Frag} {mg : Str → Option Value} {h : Heap} {fa : Addr} (KX : K.In h) (G : h.Ns mainGlobals mg) (hfa : mg "law" = some (.ref fa)) (c : tellB factsB fn K = wantB fn) :
    ∃ (fd : FuncData) (cl : Nat → Addr), (∀ (s : Shared) (u : Value), BindsTo s fd ⟨[u], []⟩ [("_law_script", u)]) ∧ ∀ base : Heap, K.In base → base.Ns mainGlobals mg → (∃ o, base.get? sysModules = some o) → GnOk P w K mg base 5 fa fd ["_law_script"] (spM ⟨K, cl⟩ 1 m_law) := by
  have F := facts_of KX G (told c)
  have e := hfa.symm.trans (F.df "law" (by decide +kernel))
  cases e
  obtain ⟨oc0, od0, kV0, dc0, pm0, an0, cd0, ct0, sl0, l0, d0, k0⟩ := def_at c 0 (d := dFn "_law_rng" 42) rfl rfl
  obtain ⟨oc1, od1, kV1, dc1, pm1, an1, cd1, ct1, sl1, l1, d1, k1⟩ := def_at c 1 (d := dFn "_law_draw" 43) rfl rfl
  obtain ⟨oc2, od2, kV2, dc2, pm2, an2, cd2, ct2, sl2, l2, d2, k2⟩ := def_at c 2 (d := dFn "_law_choice" 44) rfl rfl
  obtain ⟨oc3, od3, kV3, dc3, pm3, an3, cd3, ct3, sl3, l3, d3, k3⟩ := def_at c 3 (d := dFn "_law_thing" 45) rfl rfl
  obtain ⟨oc4, od4, kV4, dc4, pm4, an4, cd4, ct4, sl4, l4, d4, k4⟩ := def_at c 4 (d := dFn "_law_placed" 46) rfl rfl
  obtain ⟨oc5, od5, kV5, dc5, pm5, an5, cd5, ct5, sl5, l5, d5, k5⟩ := def_at c 5 (d := dFn "_law_named" 47) rfl rfl
  obtain ⟨oc6, od6, kV6, dc6, pm6, an6, cd6, ct6, sl6, l6, d6, k6⟩ := def_at c 6 (d := dFn "_law_fields" 48) rfl rfl
  obtain ⟨oc7, od7, kV7, dc7, pm7, an7, cd7, ct7, sl7, l7, d7, k7⟩ := def_at c 7 (d := dFn "_law_truths" 49) rfl rfl
  obtain ⟨oc8, od8, kV8, dc8, pm8, an8, cd8, ct8, sl8, l8, d8, k8⟩ := def_at c 8 (d := dFn "_law_made_right" 50) rfl rfl
  obtain ⟨oc9, od9, kV9, dc9, pm9, an9, cd9, ct9, sl9, l9, d9, k9⟩ := def_at c 9 (d := dFn "_law_right" 51) rfl rfl
  obtain ⟨oc10, od10, kV10, dc10, pm10, an10, cd10, ct10, sl10, l10, d10, k10⟩ := def_at c 10 (d := dFn "law" 52) rfl rfl
  refine ⟨W.fnOf "law" "law" (defArgs (top 52)) (defBody (top 52)) (defScope (top 52)) .none kV10 dc10 pm10 an10 cd10 ct10, clA K, fun s v => .of_eq rfl, fun base KB GB hS => ?_⟩
  have T := txt_mk (base := base) F c hS
  have F__law_rng := fn__law_rng (F.df "_law_rng" (by decide +kernel)) k0 (ok__law_rng (w := w) (P := P) T  l0 d0)
  have F__law_draw := fn__law_draw (F.df "_law_draw" (by decide +kernel)) k1 (ok__law_draw (w := w) (P := P) T  l1 d1)
  have F__law_choice := fn__law_choice (F.df "_law_choice" (by decide +kernel)) k2 (ok__law_choice (w := w) (P := P) T F__law_draw l2 d2)
  have F__law_thing := fn__law_thing (F.df "_law_thing" (by decide +kernel)) k3 (ok__law_thing (w := w) (P := P) T F__law_choice l3 d3)
  have F__law_placed := fn__law_placed (F.df "_law_placed" (by decide +kernel)) k4 (ok__law_placed (w := w) (P := P) T  l4 d4)
  have F__law_named := fn__law_named (F.df "_law_named" (by decide +kernel)) k5 (ok__law_named (w := w) (P := P) T  l5 d5)
  have F__law_fields := fn__law_fields (F.df "_law_fields" (by decide +kernel)) k6 (ok__law_fields (w := w) (P := P) T  l6 d6)
  have F__law_truths := fn__law_truths (F.df "_law_truths" (by decide +kernel)) k7 (ok__law_truths (w := w) (P := P) T  l7 d7)
  have F__law_made_right := fn__law_made_right (F.df "_law_made_right" (by decide +kernel)) k8 (ok__law_made_right (w := w) (P := P) T F__law_fields F__law_truths l8 d8)
  have F__law_right := fn__law_right (F.df "_law_right" (by decide +kernel)) k9 (ok__law_right (w := w) (P := P) T F__law_thing F__law_placed F__law_made_right F__law_named l9 d9)
  exact ok_law (w := w) (P := P) T F__law_right F__law_rng l10 d10
end K19

set_option Elab.async false
set_option linter.all false
set_option maxRecDepth 100000
set_option maxHeartbeats 0
/-! k19: the head, the law -/
namespace K19
open PySem PySem.W PySem.Calls PyProof.Rows
abbrev R : OpenRow := OpenLaw.row PySem.Challenge.rw_fademodes_k19_errors_and_their_classes
abbrev qv : Program := view R.prog [52]
def loose : List PySem.Str := ("InvalidNumber" :: "InvalidName" :: "InvalidCut" :: "InvalidStretch" :: "InvalidRange" :: "InvalidPlace" :: "InvalidPosition" :: "InvalidState" :: "InvalidCell" :: "InvalidCount" :: "InvalidSide" :: "InvalidPaper" :: "InvalidPrices" :: "InvalidProgram" :: "InvalidClaim" :: "InvalidCommand" :: "InvalidHistory" :: "InvalidStarts" :: "InvalidRows" :: "InvalidHand" :: "InvalidBad" :: "InvalidHeard" :: "InvalidLevels" :: "InvalidModes" :: "InvalidMove" :: "InvalidText" :: "OtherLetters" :: "InvalidRule" :: "InvalidRules" :: "TooMany" :: "UnknownMode" :: "UnknownLetter" :: "UnknownLevel" :: "UnknownName" :: "NameTaken" :: "NothingToUndo" :: "DividedByZero" :: "FadeError" :: "MissingError" :: "StateError" :: "_law_rng" :: "_law_draw" :: "_law_choice" :: "_law_thing" :: "_law_placed" :: "_law_named" :: "_law_fields" :: "_law_truths" :: "_law_made_right" :: "_law_right" :: [])
abbrev hk : Hook := DL.hookB 4 factsB fn
theorem run (w : World) : HandSHeadRun.RunEq R qv hk (DL.obB 4 factsB fn) 12000 loose w := by
  intro os
  kernel_rfl
end K19
open PySem PySem.W PySem.Calls PyProof.Rows
theorem PySem.Challenge.cw_fademodes_k19_errors_and_their_classes_holds : PySem.Challenge.rw_fademodes_k19_errors_and_their_classes.Holds := by
  w_on; o_law
  refine HandSHeadRun.head_any (r := OpenLaw.row PySem.Challenge.rw_fademodes_k19_errors_and_their_classes) (q := K19.qv) (H := K19.hk) (ob := DL.obB 4 K19.factsB K19.fn) (M := 12000) (loose := K19.loose) (d := HandSHeadRun.topDef (OpenLaw.row PySem.Challenge.rw_fademodes_k19_errors_and_their_classes).prog 52) (kwd := []) (DL.obB_eq 4 K19.factsB K19.fn) (by kernel_rfl) (fun s => by kernel_rfl) K19.run (by kernel_rfl) (by kernel_rfl) (by kernel_rfl) (by rfl) (by first | assumption | decide +kernel) (by decide +kernel) ⟨rfl, rfl, rfl, rfl, rfl, by decide +kernel⟩ ?hw ?hc
  case hw => w_witness2
  case hc =>
    refine DL.walk_e (l := PySem.Challenge.rw_fademodes_k19_errors_and_their_classes) (n := 63) (k := 5) (x := "_law_script") (m := K19.m_law) rfl (by decide) (by kernel_rfl) ⟨rfl, by decide, by decide⟩ (by kernel_rfl) ?F K19.law_yes
    intro w mg fa h Y G hmg0
    obtain ⟨K, KX, c⟩ := Y
    have hmg : mg ("law" : PySem.Str) = some (.ref fa) := by
      have e : (HandSHeadRun.topDef (OpenLaw.row PySem.Challenge.rw_fademodes_k19_errors_and_their_classes).prog 52).name = ("law" : PySem.Str) := by kernel_rfl
      rw [← e]
      exact hmg0
    obtain ⟨fd, cl, hb, hF⟩ := K19.all_mk (P := (PySem.Challenge.rw_fademodes_k19_errors_and_their_classes).prog) (w := w) KX G hmg c
    exact ⟨K, fd, cl, KX, hb, hF⟩

