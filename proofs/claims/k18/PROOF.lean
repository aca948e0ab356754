import PyProof.Rows.All
import HandS.ForMost
import HandS.ForExc
import HandS.ExcInit
import HandS.Deep
import HandS.Wide
import HandS.Conv
import HandS.IsInst
import HandS.WideBits
import HandS.Style
import KE.KExcInit
import HandS.ExcField
import HandS.ExcIs
import HandS.OwnEq
import KE.KExcIs
import HandS.ExcValue
import PyProof.ReprRoads
import HandS.EndBits
import KE.KStateDown
import HandS.Head0
import HandS.Head1
import HandS.Head2
import HandS.HeadHook1
import HandS.HeadHook2
import HandS.Property
import HandS.ClsMeth
import KE.KOpsOwn
import PyProof.InstEq
import HandS.NamedTupSort
import HandS.FStr
import HandS.TryOnly
import HandS.Star
import KE.KCallOwn
import HandS.Defaults
import HandS.HeadNt
import PySem.Challenge.RW_fademodes_k18_stage_one_by_names
set_option Elab.async false
set_option linter.all false
set_option autoImplicit false
set_option maxRecDepth 100000
/-! DL, part a: data by value, where it lies, and that this lasts. -/
namespace DL
open PySem L2

/-- data by value; loc n: a thing that may change, the n-th of the store -/
inductive D where
  | non
  | bl (b : Bool)
  | int (i : Int)
  | str (x : Str)
  | ty (n : String)
  | lst (xs : List D)
  | scr (xs : List D)
  | tup (xs : List D)
  | dic (kvs : List (Key × D))
  | ins (c : Nat) (fs : List (Str × D))
  | exc (c : Nat) (fs : List (Str × D))
  | cls (c : Nat)
  | ref (a : Addr)
  | loc (n : Nat)
  deriving Inhabited

/-- things that may change -/
inductive MO where
  | lst (xs : List D)
  | dic (kvs : List (Key × D))
  | ins (c : Nat) (fs : List (Str × D))
abbrev Store := List (Option MO)
abbrev Env := List (Option D)

/-- the written part, and the addresses of the program's own classes -/
structure Tab where
  K : PySem.W.Frag
  cl : Nat → Addr
abbrev tb (X : Cx) (c : Nat → Addr) : Tab := ⟨X.K, c⟩

/-- where data lies: the part of the heap that stays, and the addresses of the store -/
structure Wd where
  g : Hp
  f : List Addr

mutual
inductive Rep (T : Tab) (Z : Wd) : D → V → Prop where
  | non : Rep T Z .non .non
  | bl (b : Bool) : Rep T Z (.bl b) (.bl b)
  | int (i : Int) : Rep T Z (.int i) (.int i)
  | str (x : Str) : Rep T Z (.str x) (.str x)
  | ty (n : String) : Rep T Z (.ty n) (.ty n)
  | lst {a : Addr} {vs : List V} {ds : List D} : Z.g a = some (.lst vs) → Reps T Z ds vs → Rep T Z (.lst ds) (.ref a)
  | scr {a : Addr} {vs : List V} {ds : List D} : SqL T.K Z.g a vs → Reps T Z ds vs → Rep T Z (.scr ds) (.ref a)
  | tup {a : Addr} {vs : List V} {ds : List D} : SqT T.K Z.g a vs → Reps T Z ds vs → Rep T Z (.tup ds) (.ref a)
  | dic {a : Addr} {kvs : List (Key × V)} {kds : List (Key × D)} : Z.g a = some (.dK kvs) → RepK T Z kds kvs → Rep T Z (.dic kds) (.ref a)
  | ins {a dx : Addr} {c : Nat} {fs : List (Str × V)} {ds : List (Str × D)} : Z.g a = some (.ins (T.cl c) dx fs) → RepF T Z ds fs → Rep T Z (.ins c ds) (.ref a)
  | exc {a dx : Addr} {c : Nat} {fs : List (Str × V)} {ds : List (Str × D)} : Z.g a = some (L2.exo a (T.cl c) (some dx)) → Z.g dx = some (L2.exd dx fs) → RepF T Z ds fs → Rep T Z (.exc c ds) (.ref a)
  | exc0 {a : Addr} {c : Nat} : Z.g a = some (L2.exo a (T.cl c) none) → Rep T Z (.exc c []) (.ref a)
  | cls (c : Nat) : Rep T Z (.cls c) (.ref (T.cl c))
  | ref (a : Addr) : Rep T Z (.ref a) (.ref a)
  | loc {n : Nat} {a : Addr} : Z.f[n]? = some a → Rep T Z (.loc n) (.ref a)
inductive Reps (T : Tab) (Z : Wd) : List D → List V → Prop where
  | nil : Reps T Z [] []
  | cons {d : D} {v : V} {ds : List D} {vs : List V} : Rep T Z d v → Reps T Z ds vs → Reps T Z (d :: ds) (v :: vs)
inductive RepF (T : Tab) (Z : Wd) : List (Str × D) → List (Str × V) → Prop where
  | nil : RepF T Z [] []
  | cons {x : Str} {d : D} {v : V} {ds : List (Str × D)} {vs : List (Str × V)} : Rep T Z d v → RepF T Z ds vs → RepF T Z ((x, d) :: ds) ((x, v) :: vs)
inductive RepK (T : Tab) (Z : Wd) : List (Key × D) → List (Key × V) → Prop where
  | nil : RepK T Z [] []
  | cons {x : Key} {d : D} {v : V} {ds : List (Key × D)} {vs : List (Key × V)} : Rep T Z d v → RepK T Z ds vs → RepK T Z ((x, d) :: ds) ((x, v) :: vs)
end

/-- what lies so may lie so further on -/
structure Le (Z Z' : Wd) : Prop where
  g : Same Z.g Z'.g
  f : ∀ (n : Nat) (a : Addr), Z.f[n]? = some a → Z'.f[n]? = some a
theorem Le.refl (Z : Wd) : Le Z Z := ⟨Same.refl _, fun _ _ h => h⟩
theorem Le.trans {A B C : Wd} (x : Le A B) (y : Le B C) : Le A C := ⟨x.g.trans y.g, fun n a h => y.f n a (x.f n a h)⟩
theorem Same.sqt {T : Tab} {H H' : Hp} {a : Addr} {xs : List V} (e : Same H H') (h : SqT T.K H a xs) : SqT T.K H' a xs := by
  rcases h with (h | ⟨o, h⟩) | h
  · exact .inl (.inl (e _ _ h))
  · exact .inl (.inr ⟨o, e _ _ h⟩)
  · exact .inr h

mutual
theorem Rep.mono {T : Tab} {Z Z' : Wd} (l : Le Z Z') : ∀ {d : D} {v : V}, Rep T Z d v → Rep T Z' d v
  | _, _, .non => .non
  | _, _, .bl b => .bl b
  | _, _, .int i => .int i
  | _, _, .str x => .str x
  | _, _, .ty n => .ty n
  | _, _, .lst h r => .lst (l.g _ _ h) (Reps.mono l r)
  | _, _, .scr h r => .scr (Same.seq l.g h) (Reps.mono l r)
  | _, _, .tup h r => .tup (Same.sqt l.g h) (Reps.mono l r)
  | _, _, .dic h r => .dic (l.g _ _ h) (RepK.mono l r)
  | _, _, .ins h r => .ins (l.g _ _ h) (RepF.mono l r)
  | _, _, .exc h h' r => .exc (l.g _ _ h) (l.g _ _ h') (RepF.mono l r)
  | _, _, .exc0 h => .exc0 (l.g _ _ h)
  | _, _, .cls c => .cls c
  | _, _, .ref a => .ref a
  | _, _, .loc h => .loc (l.f _ _ h)
theorem Reps.mono {T : Tab} {Z Z' : Wd} (l : Le Z Z') : ∀ {d : List D} {v : List V}, Reps T Z d v → Reps T Z' d v
  | _, _, .nil => .nil
  | _, _, .cons h r => .cons (Rep.mono l h) (Reps.mono l r)
theorem RepF.mono {T : Tab} {Z Z' : Wd} (l : Le Z Z') : ∀ {d : List (Str × D)} {v : List (Str × V)}, RepF T Z d v → RepF T Z' d v
  | _, _, .nil => .nil
  | _, _, .cons h r => .cons (Rep.mono l h) (RepF.mono l r)
theorem RepK.mono {T : Tab} {Z Z' : Wd} (l : Le Z Z') : ∀ {d : List (Key × D)} {v : List (Key × V)}, RepK T Z d v → RepK T Z' d v
  | _, _, .nil => .nil
  | _, _, .cons h r => .cons (Rep.mono l h) (RepK.mono l r)
end

theorem Reps.length {T : Tab} {Z : Wd} : ∀ {d : List D} {v : List V}, Reps T Z d v → d.length = v.length
  | _, _, .nil => rfl
  | _, _, .cons _ r => by rw [List.length_cons, List.length_cons, Reps.length r]
theorem Reps.get {T : Tab} {Z : Wd} : ∀ {d : List D} {v : List V} {i : Nat} {x : D}, Reps T Z d v → d[i]? = some x → ∃ y, v[i]? = some y ∧ Rep T Z x y
  | _, _, _, _, .nil, e => by simp at e
  | _, _, 0, _, .cons h _, e => by
    simp at e
    subst e
    exact ⟨_, rfl, h⟩
  | _, _, i + 1, _, .cons _ r, e => by
    obtain ⟨y, h1, h2⟩ := Reps.get (i := i) r (by simpa using e)
    exact ⟨y, by simpa using h1, h2⟩
theorem Reps.getV {T : Tab} {Z : Wd} : ∀ {d : List D} {v : List V} {i : Nat} {y : V}, Reps T Z d v → v[i]? = some y → ∃ x, d[i]? = some x ∧ Rep T Z x y
  | _, _, _, _, .nil, e => by simp at e
  | _, _, 0, _, .cons h _, e => by
    simp at e
    subst e
    exact ⟨_, rfl, h⟩
  | _, _, i + 1, _, .cons _ r, e => by
    obtain ⟨y, h1, h2⟩ := Reps.getV (i := i) r (by simpa using e)
    exact ⟨y, by simpa using h1, h2⟩
theorem Reps.append {T : Tab} {Z : Wd} : ∀ {d e : List D} {v w : List V}, Reps T Z d v → Reps T Z e w → Reps T Z (d ++ e) (v ++ w)
  | _, _, _, _, .nil, h => h
  | _, _, _, _, .cons h r, q => .cons h (Reps.append r q)
theorem Reps.set {T : Tab} {Z : Wd} {x : D} {y : V} (q : Rep T Z x y) : ∀ {d : List D} {v : List V} (i : Nat), Reps T Z d v → Reps T Z (d.set i x) (v.set i y)
  | _, _, _, .nil => .nil
  | _, _, 0, .cons _ r => .cons q r
  | _, _, i + 1, .cons h r => .cons h (Reps.set q i r)
theorem RepF.look {T : Tab} {Z : Wd} {f : Str} : ∀ {d : List (Str × D)} {v : List (Str × V)} {x : D}, RepF T Z d v → d.lookup f = some x → ∃ y, v.lookup f = some y ∧ Rep T Z x y
  | _, _, _, .nil, e => by simp at e
  | _, _, x, .cons (x := g) (d := d0) (v := v0) h r, e => by
    rw [List.lookup_cons] at e ⊢
    cases q : f == g with
    | true =>
      rw [q] at e
      have e' : d0 = x := Option.some.inj e
      subst e'
      exact ⟨v0, rfl, h⟩
    | false =>
      rw [q] at e
      exact RepF.look r e
theorem RepF.lookN {T : Tab} {Z : Wd} {f : Str} : ∀ {d : List (Str × D)} {v : List (Str × V)}, RepF T Z d v → d.lookup f = none → v.lookup f = none
  | _, _, .nil, _ => rfl
  | _, _, .cons (x := g) h r, e => by
    rw [List.lookup_cons] at e ⊢
    cases q : f == g with
    | true =>
      rw [q] at e
      cases e
    | false =>
      rw [q] at e
      exact RepF.lookN r e

/-! ### the store -/
inductive RepM (T : Tab) (Z : Wd) : MO → HO → Prop where
  | lst {ds : List D} {vs : List V} : Reps T Z ds vs → RepM T Z (.lst ds) (.lst vs)
  | dic {ds : List (Key × D)} {vs : List (Key × V)} : RepK T Z ds vs → RepM T Z (.dic ds) (.dK vs)
  | ins {dx : Addr} {c : Nat} {ds : List (Str × D)} {vs : List (Str × V)} : RepF T Z ds vs → RepM T Z (.ins c ds) (.ins (T.cl c) dx vs)
theorem RepM.mono {T : Tab} {Z Z' : Wd} (l : Le Z Z') {m : MO} {o : HO} (h : RepM T Z m o) : RepM T Z' m o := by
  cases h with
  | lst h => exact .lst (h.mono l)
  | dic h => exact .dic (h.mono l)
  | ins h => exact .ins (h.mono l)

structure Good (T : Tab) (Z : Wd) (H : Hp) (μ : Store) : Prop where
  sub : Same Z.g H
  len : Z.f.length = μ.length
  inj : Z.f.Nodup
  there : ∀ a ∈ Z.f, H a ≠ none
  obj : ∀ (n : Nat) (a : Addr) (m : MO), Z.f[n]? = some a → μ[n]? = some (some m) → Z.g a = none ∧ ∃ o, H a = some o ∧ RepM T Z m o
def Slots (T : Tab) (Z : Wd) (ρ : Env) (σ : St) : Prop := ρ.length = σ.length ∧ ∀ (i : Nat) (d : D), ρ[i]? = some (some d) → ∃ v, σ[i]? = some (some v) ∧ Rep T Z d v
theorem Slots.mono {T : Tab} {Z Z' : Wd} {ρ : Env} {σ : St} (l : Le Z Z') (h : Slots T Z ρ σ) : Slots T Z' ρ σ := ⟨h.1, fun i d e => by
  obtain ⟨v, h1, h2⟩ := h.2 i d e
  exact ⟨v, h1, h2.mono l⟩⟩
theorem Slots.set {T : Tab} {Z : Wd} {ρ : Env} {σ : St} {x : D} {v : V} (h : Slots T Z ρ σ) (q : Rep T Z x v) (i : Nat) : Slots T Z (ρ.set i (some x)) (σ.set i (some v)) := by
  refine ⟨by simp [h.1], fun j d e => ?_⟩
  by_cases hj : i = j
  · subst hj
    by_cases hl : i < ρ.length
    · rw [List.getElem?_set_self hl] at e
      cases e
      exact ⟨v, by rw [List.getElem?_set_self (by rw [← h.1]; exact hl)], q⟩
    · rw [List.getElem?_eq_none (by simp; omega)] at e
      cases e
  · rw [List.getElem?_set_ne hj] at e ⊢
    exact h.2 j d e
theorem Slots.wipe {T : Tab} {Z : Wd} {ρ : Env} {σ : St} (h : Slots T Z ρ σ) (i : Nat) : Slots T Z (ρ.set i none) σ := by
  refine ⟨by simp [h.1], fun j d e => ?_⟩
  by_cases hj : i = j
  · subst hj
    by_cases hl : i < ρ.length
    · rw [List.getElem?_set_self hl] at e
      cases e
    · rw [List.getElem?_eq_none (by simp; omega)] at e
      cases e
  · rw [List.getElem?_set_ne hj] at e
    exact h.2 j d e

/-- a new thing that stays -/
def Wd.add (Z : Wd) (p : Addr) (o : HO) : Wd := ⟨upd Z.g p o, Z.f⟩
theorem Le.add {Z : Wd} {p : Addr} {o : HO} (h : Z.g p = none) : Le Z (Z.add p o) := ⟨fun b u e => by
  show upd Z.g p o b = some u
  rw [upd_ne (ne_of_none e h)]
  exact e, fun _ _ h => h⟩
theorem Good.free {T : Tab} {Z : Wd} {H : Hp} {μ : Store} (g : Good T Z H μ) {p : Addr} (h : H p = none) : Z.g p = none := g.sub.free h
theorem Good.add {T : Tab} {Z : Wd} {H : Hp} {μ : Store} (g : Good T Z H μ) {p : Addr} (o : HO) (h : H p = none) : Good T (Z.add p o) (upd H p o) μ := by
  have l : Le Z (Z.add p o) := Le.add (g.free h)
  refine ⟨fun b u e => ?_, g.len, g.inj, fun a ha z => ?_, fun n a m e1 e2 => ?_⟩
  · by_cases hb : b = p
    · subst hb
      have e' : upd Z.g b o b = some u := e
      rw [upd_same] at e' ⊢
      exact e'
    · have e' : upd Z.g p o b = some u := e
      rw [upd_ne hb] at e' ⊢
      exact g.sub b u e'
  · by_cases hb : a = p
    · rw [hb, upd_same] at z
      cases z
    · rw [upd_ne hb] at z
      exact g.there a ha z
  · obtain ⟨h0, u, h1, h2⟩ := g.obj n a m e1 e2
    have ne : a ≠ p := ne_of_none h1 h
    refine ⟨?_, u, ?_, h2.mono l⟩
    · show upd Z.g p o a = none
      rw [upd_ne ne]
      exact h0
    · rw [upd_ne ne]
      exact h1
/-- what goes on: data stays where it lies, and what is tracked but not of the store stays as it is -/
structure Step (Z : Wd) (H : Hp) (Z' : Wd) (H' : Hp) : Prop where
  le : Le Z Z'
  fr : ∀ a o, H a = some o → a ∉ Z.f → H' a = some o ∧ a ∉ Z'.f ∧ (Z.g a = none → Z'.g a = none)
theorem Step.rfl {Z : Wd} {H : Hp} : Step Z H Z H := ⟨Le.refl Z, fun _ _ h n => ⟨h, n, fun z => z⟩⟩
theorem Step.trans {A B C : Wd} {H H1 H2 : Hp} (x : Step A H B H1) (y : Step B H1 C H2) : Step A H C H2 := ⟨x.le.trans y.le, fun a o h n =>
  have z := x.fr a o h n
  have y := y.fr a o z.1 z.2.1
  ⟨y.1, y.2.1, fun q => y.2.2 (z.2.2 q)⟩⟩
theorem Step.add {T : Tab} {Z : Wd} {H : Hp} {μ : Store} (g : Good T Z H μ) {p : Addr} {o : HO} (h : H p = none) : Step Z H (Z.add p o) (upd H p o) := ⟨Le.add (g.free h), fun a u e n => ⟨by
  rw [upd_ne (ne_of_none e h)]
  exact e, n, fun q => by
    show upd Z.g p o a = none
    rw [upd_ne (ne_of_none e h)]
    exact q⟩⟩
/-- a new thing that may change -/
def Wd.put (Z : Wd) (p : Addr) : Wd := ⟨Z.g, Z.f ++ [p]⟩
theorem Le.put {Z : Wd} {p : Addr} : Le Z (Z.put p) := ⟨Same.refl _, fun n a e => by
  show (Z.f ++ [p])[n]? = some a
  obtain ⟨h, e'⟩ := List.getElem?_eq_some_iff.mp e
  rw [List.getElem?_append_left h]
  exact e⟩
theorem Step.put {Z : Wd} {H : Hp} {p : Addr} {o : HO} (h : H p = none) : Step Z H (Z.put p) (upd H p o) := ⟨Le.put, fun a u e n => by
  have ne := ne_of_none e h
  refine ⟨by rw [upd_ne ne]; exact e, fun hm => ?_, fun q => q⟩
  have hm' : a ∈ Z.f ++ [p] := hm
  rcases List.mem_append.mp hm' with q | q
  · exact n q
  · exact ne (List.mem_singleton.mp q)⟩
/-- a tracked thing that is not of the store comes to what stays -/
theorem Good.adopt {T : Tab} {Z : Wd} {H : Hp} {μ : Store} (g : Good T Z H μ) {p : Addr} {o : HO} (h : H p = some o) (hf : p ∉ Z.f) (hg : Z.g p = none) : Le Z (Z.add p o) ∧ Good T (Z.add p o) H μ := by
  have l : Le Z (Z.add p o) := Le.add hg
  refine ⟨l, fun b u e => ?_, g.len, g.inj, g.there, fun n a m e1 e2 => ?_⟩
  · by_cases hb : b = p
    · subst hb
      have e' : upd Z.g b o b = some u := e
      rw [upd_same] at e'
      rw [h]
      exact e'
    · have e' : upd Z.g p o b = some u := e
      rw [upd_ne hb] at e'
      exact g.sub b u e'
  · obtain ⟨h0, u, h1, h2⟩ := g.obj n a m e1 e2
    have ne : a ≠ p := fun z => hf (z ▸ List.mem_of_getElem? e1)
    refine ⟨?_, u, h1, h2.mono l⟩
    show upd Z.g p o a = none
    rw [upd_ne ne]
    exact h0
/-- a tracked thing that is neither of the store nor of what stays is changed -/
theorem Good.over {T : Tab} {Z : Wd} {H : Hp} {μ : Store} (g : Good T Z H μ) {p : Addr} (o : HO) (hf : p ∉ Z.f) (hg : Z.g p = none) : Good T Z (upd H p o) μ := by
  refine ⟨fun b u e => ?_, g.len, g.inj, fun a ha z => ?_, fun n a m e1 e2 => ?_⟩
  · rw [upd_ne (ne_of_none e hg)]
    exact g.sub b u e
  · have ne : a ≠ p := fun q => hf (q ▸ ha)
    rw [upd_ne ne] at z
    exact g.there a ha z
  · obtain ⟨h0, u, h1, h2⟩ := g.obj n a m e1 e2
    have ne : a ≠ p := fun z => hf (z ▸ List.mem_of_getElem? e1)
    exact ⟨h0, u, by rw [upd_ne ne]; exact h1, h2⟩
end DL

set_option Elab.async false
set_option linter.all false
set_option autoImplicit false
set_option maxRecDepth 100000
/-! DL, part b: results, readings of results, names, constants, operators. -/
namespace DL
open PySem L2

inductive Res (α : Type) where
  | ok (a : α) (μ : Store)
  | exc (C : Nat) (fs : List (Str × D)) (μ : Store)
  | bad
def Res.bind {α β : Type} (r : Res α) (f : α → Store → Res β) : Res β := match r with
  | .ok a μ => f a μ
  | .exc C fs μ => .exc C fs μ
  | .bad => .bad
def ofO {α : Type} (o : Option α) (μ : Store) : Res α := match o with
  | some a => .ok a μ
  | none => .bad

/-- an exception's own dict -/
def ExcAt (T : Tab) (Z : Wd) (H : Hp) (fs : List (Str × D)) : Option Addr → Prop
  | none => fs = []
  | some dx => ∃ vs, H dx = some (.xd vs) ∧ RepF T Z fs vs

def post {α β : Type} (T : Tab) (R : Wd → α → β → Prop) (W : WX) (Z : Wd) (H : Hp) (σ : St) (r : Res α) (Q : β → Hp → Prop) : Prop := match r with
  | .ok d μ => ∀ Z' H' v, Step Z H Z' H' → Good T Z' H' μ → R Z' d v → Q v H'
  | .exc C fs μ => ∀ Z' H' dx, Step Z H Z' H' → Good T Z' H' μ → ExcAt T Z' H' fs dx → W (.ref (T.cl C)) dx σ H'
  | .bad => False
theorem post_st {α β : Type} {T : Tab} {R : Wd → α → β → Prop} {W : WX} {Z Z' : Wd} {H H' : Hp} {σ : St} {r : Res α} {Q : β → Hp → Prop} (l : Step Z H Z' H') (h : post T R W Z H σ r Q) : post T R W Z' H' σ r Q := by
  cases r with
  | ok d μ => exact fun Z2 H2 v l2 => h Z2 H2 v (l.trans l2)
  | exc C fs μ => exact fun Z2 H2 v l2 => h Z2 H2 v (l.trans l2)
  | bad => exact h
theorem post_bind {α β γ δ : Type} {T : Tab} {R : Wd → α → β → Prop} {R2 : Wd → γ → δ → Prop} {W : WX} {Z : Wd} {H : Hp} {σ : St} {r : Res α} {f : α → Store → Res γ} {Q : δ → Hp → Prop} (h : post T R2 W Z H σ (r.bind f) Q) :
    post T R W Z H σ r (fun v H' => ∃ Z' d μ, Step Z H Z' H' ∧ Good T Z' H' μ ∧ R Z' d v ∧ post T R2 W Z' H' σ (f d μ) Q) := by
  cases r with
  | ok d μ => exact fun Z2 H2 v l g q => ⟨Z2, d, μ, l, g, q, post_st l h⟩
  | exc C fs μ => exact h
  | bad => exact h
theorem post_mono {α β : Type} {T : Tab} {R : Wd → α → β → Prop} {W : WX} {Z : Wd} {H : Hp} {σ : St} {r : Res α} {Q Q' : β → Hp → Prop} (h : post T R W Z H σ r Q) (q : ∀ v H, Q v H → Q' v H) : post T R W Z H σ r Q' := by
  cases r with
  | ok d μ => exact fun Z2 H2 v l g r => q v H2 (h Z2 H2 v l g r)
  | exc C fs μ => exact h
  | bad => exact h
def EqB (_ : Wd) (a b : Bool) : Prop := a = b

abbrev DenE := Env → Store → Res D
abbrev DenA := Env → Store → Res (List D)
abbrev DenT := Env → Store → Res Bool
def rdG {α β : Type} (T : Tab) (R : Wd → α → β → Prop) (W : WX) (δ : Env → Store → Res α) : St → Hp → (β → Hp → Prop) → Prop := fun σ H Q =>
  ∃ Z ρ μ, Good T Z H μ ∧ Slots T Z ρ σ ∧ post T R W Z H σ (δ ρ μ) Q
abbrev rdE (T : Tab) (W : WX) (δ : DenE) : TE := rdG T (Rep T) W δ
abbrev rdA (T : Tab) (W : WX) (δ : DenA) : TA := rdG T (Reps T) W δ
abbrev rdT (T : Tab) (W : WX) (δ : DenT) : TT := rdG T EqB W δ
theorem rd_at {α β : Type} {T : Tab} {R : Wd → α → β → Prop} {W : WX} {δ : Env → Store → Res α} {σ : St} {H : Hp} {Q : β → Hp → Prop} {Z : Wd} {ρ : Env} {μ : Store} (g : Good T Z H μ) (s : Slots T Z ρ σ) (h : post T R W Z H σ (δ ρ μ) Q) : rdG T R W δ σ H Q := ⟨Z, ρ, μ, g, s, h⟩
/-- one thing, then what hangs on it -/
theorem rd_then {α β γ δ : Type} {T : Tab} {R : Wd → α → β → Prop} {R2 : Wd → γ → δ → Prop} {W : WX} {δa : Env → Store → Res α} {f : Env → α → Store → Res γ} {σ : St} {H : Hp} {Q : δ → Hp → Prop}
    (h : rdG T R2 W (fun ρ μ => (δa ρ μ).bind (f ρ)) σ H Q) : rdG T R W δa σ H (fun v H1 => ∃ Z ρ d μ, Good T Z H1 μ ∧ Slots T Z ρ σ ∧ R Z d v ∧ post T R2 W Z H1 σ (f ρ d μ) Q) := by
  obtain ⟨Z, ρ, μ, g, s, h⟩ := h
  exact ⟨Z, ρ, μ, g, s, post_mono (post_bind h) fun v H1 ⟨Z', d, μ', l, g', r, q⟩ => ⟨Z', ρ, d, μ', g', s.mono l.le, r, q⟩⟩

theorem PE.imp {X : Cx} {e : Expr} {t t' : TE} (h : PE X e t) (i : ∀ σ H Q, t' σ H Q → t σ H Q) : PE X e t' := ⟨fun pins s σ H Q I w => h.run pins s σ H Q I (i σ H Q w)⟩
theorem PT.imp {X : Cx} {e : Expr} {t t' : TT} (h : PT X e t) (i : ∀ σ H Q, t' σ H Q → t σ H Q) : PT X e t' := ⟨fun pins s σ H Q I w => h.run pins s σ H Q I (i σ H Q w)⟩
theorem PW.imp {X : Cx} {e : Expr} {t t' : TT} (h : PW X e t) (i : ∀ σ H Q, t' σ H Q → t σ H Q) : PW X e t' := ⟨fun wh pins s σ H Q I w => h.run wh pins s σ H Q I (i σ H Q w)⟩
theorem PA.imp {X : Cx} {e : List Expr} {t t' : TA} (h : PA X e t) (i : ∀ σ H Q, t' σ H Q → t σ H Q) : PA X e t' := ⟨fun pos pins s σ H Q I w => h.run pos pins s σ H Q I (i σ H Q w)⟩
theorem PS.imp {X : Cx} {e : Stmt} {t t' : TS} (h : PS X e t) (i : ∀ D σ H, t' D σ H → t D σ H) : PS X e t' := ⟨fun pins s σ H D I w => h.run pins s σ H D I (i D σ H w)⟩
theorem PSs.imp {X : Cx} {e : List Stmt} {t t' : TS} (h : PSs X e t) (i : ∀ D σ H, t' D σ H → t D σ H) : PSs X e t' := ⟨fun pins s σ H D I w => h.run pins s σ H D I (i D σ H w)⟩

/-! ### names and constants -/
def dVar (i : Nat) : DenE := fun ρ μ => match ρ[i]? with
  | some (some d) => .ok d μ
  | _ => .bad
def dC (d : D) : DenE := fun _ μ => .ok d μ
section
variable {X : Cx} {c : Nat → Addr} {W : WX} {pos : Pos}
theorem de_var {i : Nat} {x : Str} (hN : X.N[i]? = some x) (hv : Vis X.env.scope x) (hd : (x == ("__debug__" : Str)) = false) (hcd : (x == ("__classdict__" : Str)) = false) : PE X (.Name x pos) (rdE (tb X c) W (dVar i)) := by
  refine PE.imp (pe_var hN hv hd hcd) fun σ H Q ⟨Z, ρ, μ, g, s, h⟩ => ?_
  unfold dVar at h
  split at h
  · rename_i d e
    obtain ⟨v, h1, h2⟩ := s.2 i d e
    exact ⟨v, h1, h Z H v Step.rfl g h2⟩
  · exact False.elim h
theorem de_c {e : Expr} {d : D} {v : V} (h : PE X e (tC v)) (r : ∀ Z, Rep (tb X c) Z d v) : PE X e (rdE (tb X c) W (dC d)) :=
  PE.imp h fun σ H Q ⟨Z, ρ, μ, g, s, q⟩ => q Z H v Step.rfl g (r Z)
theorem de_int {i : Int} {j : Nat} : PE X (.Constant (.int i) j pos) (rdE (tb X c) W (dC (.int i))) := de_c pe_int fun _ => .int i
theorem de_bl {b : Bool} {j : Nat} : PE X (.Constant (.bool b) j pos) (rdE (tb X c) W (dC (.bl b))) := de_c pe_bl fun _ => .bl b
theorem de_non {j : Nat} : PE X (.Constant .none j pos) (rdE (tb X c) W (dC .non)) := de_c pe_non fun _ => .non
theorem de_str {x : Str} {j : Nat} : PE X (.Constant (.str x) j pos) (rdE (tb X c) W (dC (.str x))) := de_c pe_str fun _ => .str x
end

/-! ### operators -/
abbrev Op2 := D → D → Store → Option D
def rdO (T : Tab) (o : Op2) : R2 := fun x y H Q => ∃ Z μ dx dy d, Good T Z H μ ∧ Rep T Z dx x ∧ Rep T Z dy y ∧ o dx dy μ = some d ∧ ∀ Z' H' v, Step Z H Z' H' → Good T Z' H' μ → Rep T Z' d v → Q v H'
theorem OpR.imp {X : Cx} {f : Value → Value → Sem Value} {r r' : R2} (h : OpR X f r) (i : ∀ x y H Q, r' x y H Q → r x y H Q) : OpR X f r' := fun pins s σ H x y v u Q I r1 r2 w => h pins s σ H x y v u Q I r1 r2 (i x y H Q w)
def dBin (o : Op2) (δa δb : DenE) : DenE := fun ρ μ => (δa ρ μ).bind fun x μ1 => (δb ρ μ1).bind fun y μ2 => ofO (o x y μ2) μ2
theorem rd_bin {T : Tab} {W : WX} {o : Op2} {δa δb : DenE} {σ : St} {H : Hp} {Q : VK} (h : rdE T W (dBin o δa δb) σ H Q) : tOp (rdO T o) (rdE T W δa) (rdE T W δb) σ H Q := by
  have h1 := rd_then (R := Rep T) (f := fun ρ x μ1 => (δb ρ μ1).bind fun y μ2 => ofO (o x y μ2) μ2) h
  obtain ⟨Z, ρ, μ, g, s, h1⟩ := h1
  refine ⟨Z, ρ, μ, g, s, post_mono h1 fun x H1 ⟨Z1, ρ1, dx, μ1, g1, s1, rx, q1⟩ => ?_⟩
  refine ⟨Z1, ρ1, μ1, g1, s1, post_mono (post_bind (R := Rep T) q1) fun y H2 ⟨Z2, dy, μ2, l2, g2, ry, q2⟩ => ?_⟩
  unfold ofO at q2
  cases e : o dx dy μ2 with
  | none =>
    rw [e] at q2
    exact False.elim q2
  | some d =>
    rw [e] at q2
    exact ⟨Z2, μ2, dx, dy, d, g2, rx.mono l2.le, ry, e, q2⟩
section
variable {X : Cx} {c : Nat → Addr} {W : WX} {pos : Pos} {a b : Expr} {δa δb : DenE} {o : Op2}
theorem de_bin {op : Operator} (ho : OpR X (binaryOp op) (rdO (tb X c) o)) (ha : PE X a (rdE (tb X c) W δa)) (hb : PE X b (rdE (tb X c) W δb)) : PE X (.BinOp a op b pos) (rdE (tb X c) W (dBin o δa δb)) :=
  PE.imp (pe_op ho ha hb) fun _ _ _ h => rd_bin h
theorem de_cmp {op : CmpOp} (ho : OpR X (compareOp op) (rdO (tb X c) o)) (ha : PE X a (rdE (tb X c) W δa)) (hb : PE X b (rdE (tb X c) W δb)) (hm : behindInMarks op b = false) : PE X (.Compare a [op] [b] pos) (rdE (tb X c) W (dBin o δa δb)) :=
  PE.imp (pe_cmpR ho ha hb hm) fun _ _ _ h => rd_bin h
end
/-- two rules for one operator -/
def orO (o o' : Op2) : Op2 := fun x y μ => match o x y μ with
  | some d => some d
  | none => o' x y μ
theorem rdO_or {T : Tab} {X : Cx} {f : Value → Value → Sem Value} {o o' : Op2} (h : OpR X f (rdO T o)) (h' : OpR X f (rdO T o')) : OpR X f (rdO T (orO o o')) := by
  refine OpR.imp (OpR.or h h') fun x y H Q ⟨Z, μ, dx, dy, d, g, r1, r2, e, q⟩ => ?_
  unfold orO at e
  cases e1 : o dx dy μ with
  | some d1 =>
    rw [e1] at e
    cases e
    exact .inl ⟨Z, μ, dx, dy, _, g, r1, r2, e1, q⟩
  | none =>
    rw [e1] at e
    exact .inr ⟨Z, μ, dx, dy, d, g, r1, r2, e, q⟩
end DL

set_option Elab.async false
set_option linter.all false
set_option autoImplicit false
set_option maxRecDepth 100000
/-! DL, part c: what operators and built-ins make of data. -/
namespace DL
open PySem L2

/-! ### looking at data -/
def asL (μ : Store) : D → Option (List D)
  | .lst xs => some xs
  | .loc n => match μ[n]? with
    | some (some (.lst xs)) => some xs
    | _ => none
  | _ => none
/-- a list or a tuple, to be read -/
def asS (μ : Store) : D → Option (List D)
  | .lst xs => some xs
  | .scr xs => some xs
  | .tup xs => some xs
  | .loc n => match μ[n]? with
    | some (some (.lst xs)) => some xs
    | _ => none
  | _ => none
section
variable {T : Tab} {Z : Wd} {H : Hp} {μ : Store} {d : D} {v : V} {ds : List D}
theorem loc_list (g : Good T Z H μ) {n : Nat} {a : Addr} (h : Z.f[n]? = some a) (e : μ[n]? = some (some (.lst ds))) : ∃ vs, H a = some (.lst vs) ∧ Reps T Z ds vs := by
  obtain ⟨_, o, h1, h2⟩ := g.obj n a _ h e
  cases h2 with
  | lst r => exact ⟨_, h1, r⟩
theorem asL_loc {n : Nat} (e : asL μ (.loc n) = some ds) : μ[n]? = some (some (.lst ds)) := by
  simp only [asL] at e
  split at e
  · rename_i xs q
    cases e
    exact q
  · cases e
theorem at_l (g : Good T Z H μ) (r : Rep T Z d v) (e : asL μ d = some ds) : ∃ a vs, v = .ref a ∧ H a = some (.lst vs) ∧ Reps T Z ds vs := by
  cases r with
  | lst h r =>
    cases e
    exact ⟨_, _, rfl, g.sub _ _ h, r⟩
  | loc h =>
    obtain ⟨vs, h1, h2⟩ := loc_list g h (asL_loc e)
    exact ⟨_, vs, rfl, h1, h2⟩
  | _ => cases e
theorem at_s (g : Good T Z H μ) (r : Rep T Z d v) (e : asS μ d = some ds) : ∃ a vs, v = .ref a ∧ (SqL T.K H a vs ∨ SqT T.K H a vs) ∧ Reps T Z ds vs := by
  cases r with
  | lst h r =>
    cases e
    exact ⟨_, _, rfl, .inl (SqL.of (g.sub _ _ h)), r⟩
  | scr h r =>
    cases e
    exact ⟨_, _, rfl, .inl (Same.seq g.sub h), r⟩
  | tup h r =>
    cases e
    exact ⟨_, _, rfl, .inr (Same.sqt g.sub h), r⟩
  | loc h =>
    rename_i n a
    obtain ⟨a', vs, h1, h2, h3⟩ := at_l (d := .loc n) g (.loc h) (show asL μ (.loc n) = some ds from e)
    exact ⟨a', vs, h1, .inl (SqL.of h2), h3⟩
  | _ => cases e
end

/-! ### two ints -/
def int2 (p : Int → Int → Bool) (f : Int → Int → D) : Op2 := fun x y _ => match x, y with
  | .int i, .int j => if p i j = true then some (f i j) else none
  | _, _ => none
theorem op_int2 {X : Cx} {c : Nat → Addr} {F : Value → Value → Sem Value} {C : Int → Int → Prop} {g : Int → Int → V} {p : Int → Int → Bool} {f : Int → Int → D} (ho : OpR X F (rI C g)) (hp : ∀ i j, p i j = true → C i j) (hr : ∀ i j Z, Rep (tb X c) Z (f i j) (g i j)) :
    OpR X F (rdO (tb X c) (int2 p f)) := by
  refine OpR.imp ho fun x y H Q ⟨Z, μ, dx, dy, d, gd, r1, r2, e, q⟩ => ?_
  unfold int2 at e
  split at e
  · rename_i i j
    cases r1
    cases r2
    by_cases hc : p i j = true
    · rw [if_pos hc] at e
      cases e
      exact ⟨i, j, rfl, rfl, hp i j hc, q Z H _ Step.rfl gd (hr i j Z)⟩
    · rw [if_neg hc] at e
      cases e
  · cases e
theorem op_int0 {X : Cx} {c : Nat → Addr} {F : Value → Value → Sem Value} {g : Int → Int → V} {f : Int → Int → D} (ho : OpR X F (rI0 g)) (hr : ∀ i j Z, Rep (tb X c) Z (f i j) (g i j)) : OpR X F (rdO (tb X c) (int2 (fun _ _ => true) f)) := by
  refine OpR.imp ho fun x y H Q ⟨Z, μ, dx, dy, d, gd, r1, r2, e, q⟩ => ?_
  unfold int2 at e
  split at e
  · rename_i i j
    cases r1
    cases r2
    rw [if_pos rfl] at e
    cases e
    exact ⟨i, j, rfl, rfl, q Z H _ Step.rfl gd (hr i j Z)⟩
  · cases e
def yes2 (_ _ : Int) : Bool := true
def addI : Op2 := int2 (fun _ _ => true) fun i j => .int (i + j)
def subI : Op2 := int2 (fun _ _ => true) fun i j => .int (i - j)
/-- a product: one factor is small, or both together have at most a million bits -/
def mulOk (i j : Int) : Bool := decide ((-(2 ^ 64) < i ∧ i < 2 ^ 64) ∨ (-(2 ^ 64) < j ∧ j < 2 ^ 64)) || decide (i.natAbs.log2 + j.natAbs.log2 < 1000000)
theorem mulOk_ok {i j : Int} (h : mulOk i j = true) : IntMulOk i j := by
  rcases Bool.or_eq_true_iff.mp h with q | q
  · exact CMul.ok (show (-(2 ^ 64) < i ∧ i < 2 ^ 64) ∨ (-(2 ^ 64) < j ∧ j < 2 ^ 64) from of_decide_eq_true q)
  · exact CMulW.ok (show i.natAbs.log2 + j.natAbs.log2 < 1000000 from of_decide_eq_true q)
def mulI : Op2 := int2 mulOk fun i j => .int (i * j)
def modI : Op2 := int2 (fun _ j => decide (0 < j)) fun i j => .int (i % j)
def divI : Op2 := int2 (fun _ j => decide (0 < j ∧ j.natAbs.log2 < 9000)) fun i j => .int (i / j)
def powI : Op2 := int2 (fun i j => decide (0 ≤ j ∧ j ≤ 1000000 ∧ i.natAbs < 2 ^ 64)) fun i j => .int (i ^ j.toNat)
def ltI : Op2 := int2 (fun _ _ => true) fun i j => .bl (decide (i < j))
def leI : Op2 := int2 (fun _ _ => true) fun i j => .bl (decide (i ≤ j))
def gtI : Op2 := int2 (fun _ _ => true) fun i j => .bl (decide (j < i))
def geI : Op2 := int2 (fun _ _ => true) fun i j => .bl (decide (j ≤ i))
section
variable {X : Cx} {c : Nat → Addr}
theorem o_addI : OpR X (binaryOp .Add) (rdO (tb X c) addI) := op_int0 op_add fun _ _ _ => .int _
theorem o_subI : OpR X (binaryOp .Sub) (rdO (tb X c) subI) := op_int0 op_sub fun _ _ _ => .int _
theorem o_mulI : OpR X (binaryOp .Mult) (rdO (tb X c) mulI) := op_int2 (C := IntMulOk) (opI fun _ _ _ _ _ _ _ hc q => PyProof.Rows.mul_int q hc) (fun _ _ h => mulOk_ok h) fun _ _ _ => .int _
theorem o_modI : OpR X (binaryOp .Mod) (rdO (tb X c) modI) := op_int2 op_mod (fun _ _ h => of_decide_eq_true h) fun _ _ _ => .int _
theorem o_divI : OpR X (binaryOp .FloorDiv) (rdO (tb X c) divI) := op_int2 op_fdivW (fun i j h => (of_decide_eq_true h : 0 < j ∧ j.natAbs.log2 < 9000)) fun _ _ _ => .int _
theorem o_powI : OpR X (binaryOp .Pow) (rdO (tb X c) powI) := op_int2 op_pow (fun i j h => (of_decide_eq_true h : 0 ≤ j ∧ j ≤ 1000000 ∧ i.natAbs < 2 ^ 64)) fun _ _ _ => .int _
theorem o_ltI : OpR X (compareOp .Lt) (rdO (tb X c) ltI) := op_int0 op_lt fun _ _ _ => .bl _
theorem o_leI : OpR X (compareOp .LtE) (rdO (tb X c) leI) := op_int0 op_le fun _ _ _ => .bl _
theorem o_gtI : OpR X (compareOp .Gt) (rdO (tb X c) gtI) := op_int0 op_gt fun _ _ _ => .bl _
theorem o_geI : OpR X (compareOp .GtE) (rdO (tb X c) geI) := op_int0 op_ge fun _ _ _ => .bl _
end

/-! ### lists and texts -/
def catL : Op2 := fun x y μ => match asL μ x, asL μ y with
  | some xs, some ys => if xs.length + ys.length ≤ sizeLine then some (.lst (xs ++ ys)) else none
  | _, _ => none
def repL : Op2 := fun x y μ => match asL μ x, y with
  | some xs, .int k => if -(2 ^ 63) ≤ k ∧ k < 2 ^ 63 ∧ xs.length * k.toNat ≤ sizeLine then some (.lst (List.replicate k.toNat xs).flatten) else none
  | _, _ => none
def addS : Op2 := fun x y _ => match x, y with
  | .str a, .str b => if a.length + b.length ≤ sizeLine then some (.str (a ++ b)) else none
  | _, _ => none
theorem Reps.flat {T : Tab} {Z : Wd} {ds : List D} {vs : List V} (r : Reps T Z ds vs) : ∀ n : Nat, Reps T Z (List.replicate n ds).flatten (List.replicate n vs).flatten
  | 0 => .nil
  | n + 1 => by
    rw [List.replicate_succ, List.replicate_succ, List.flatten_cons, List.flatten_cons]
    exact r.append (Reps.flat r n)
section
variable {X : Cx} {c : Nat → Addr}
/-- a new list that stays -/
theorem new_lst {T : Tab} {Z : Wd} {H : Hp} {μ : Store} {ds : List D} {vs : List V} {Q : VK} (g : Good T Z H μ) (r : Reps T Z ds vs) (q : ∀ Z' H' v, Step Z H Z' H' → Good T Z' H' μ → Rep T Z' (.lst ds) v → Q v H') : ∀ p, H p = none → Q (.ref p) (upd H p (.lst vs)) := fun p hp =>
  have l : Step Z H (Z.add p (.lst vs)) (upd H p (.lst vs)) := Step.add g hp
  q (Z.add p (.lst vs)) _ _ l (g.add _ hp) (.lst upd_same (r.mono l.le))
theorem new_tup {T : Tab} {Z : Wd} {H : Hp} {μ : Store} {ds : List D} {vs : List V} {Q : VK} (g : Good T Z H μ) (r : Reps T Z ds vs) (q : ∀ Z' H' v, Step Z H Z' H' → Good T Z' H' μ → Rep T Z' (.tup ds) v → Q v H') : ∀ p, H p = none → Q (.ref p) (upd H p (.tup vs)) := fun p hp =>
  have l : Step Z H (Z.add p (.tup vs)) (upd H p (.tup vs)) := Step.add g hp
  q (Z.add p (.tup vs)) _ _ l (g.add _ hp) (.tup (SqT.of upd_same) (r.mono l.le))
theorem o_catL : OpR X (binaryOp .Add) (rdO (tb X c) catL) := by
  refine OpR.imp op_cat fun x y H Q ⟨Z, μ, dx, dy, d, g, r1, r2, e, q⟩ => ?_
  simp only [catL] at e
  split at e
  · rename_i xs ys e1 e2
    obtain ⟨a, vs, h1, h2, h3⟩ := at_l g r1 e1
    obtain ⟨b, ws, k1, k2, k3⟩ := at_l g r2 e2
    split at e
    · rename_i hl
      cases e
      exact ⟨a, b, vs, ws, h1, k1, h2, k2, by rw [← h3.length, ← k3.length]; exact hl, new_lst g (h3.append k3) q⟩
    · cases e
  · cases e
theorem o_repL : OpR X (binaryOp .Mult) (rdO (tb X c) repL) := by
  refine OpR.imp op_rep fun x y H Q ⟨Z, μ, dx, dy, d, g, r1, r2, e, q⟩ => ?_
  simp only [repL] at e
  split at e
  · rename_i xs k e1
    obtain ⟨a, vs, h1, h2, h3⟩ := at_l g r1 e1
    cases r2
    split at e
    · rename_i hl
      cases e
      exact ⟨a, k, vs, h1, rfl, h2, hl.1, hl.2.1, by rw [← h3.length]; exact hl.2.2, new_lst g (h3.flat _) q⟩
    · cases e
  · cases e
theorem o_addS : OpR X (binaryOp .Add) (rdO (tb X c) addS) := by
  refine OpR.imp op_add_str fun x y H Q ⟨Z, μ, dx, dy, d, g, r1, r2, e, q⟩ => ?_
  simp only [addS] at e
  split at e
  · rename_i a b
    cases r1
    cases r2
    split at e
    · rename_i hl
      cases e
      exact ⟨a, b, rfl, rfl, hl, q Z H _ Step.rfl g (.str _)⟩
    · cases e
  · cases e
end
def addD : Op2 := orO addI (orO catL addS)
def mulD : Op2 := orO mulI repL
theorem o_add {X : Cx} {c : Nat → Addr} : OpR X (binaryOp .Add) (rdO (tb X c) addD) := rdO_or o_addI (rdO_or o_catL o_addS)
theorem o_mul {X : Cx} {c : Nat → Addr} : OpR X (binaryOp .Mult) (rdO (tb X c) mulD) := rdO_or o_mulI o_repL

/-! ### data without instances -/
mutual
def toPy : D → Option PyData
  | .non => some .none
  | .bl b => some (.bool b)
  | .int i => some (.int i)
  | .str x => some (.str x)
  | .lst xs => (toPys xs).map .list
  | .tup xs => (toPys xs).map .tuple
  | _ => none
def toPys : List D → Option (List PyData)
  | [] => some []
  | x :: xs => match toPy x, toPys xs with
    | some p, some ps => some (p :: ps)
    | _, _ => none
end
/-- the same of a thing of the store -/
def pyOf (μ : Store) (d : D) : Option PyData := match d with
  | .loc n => match asL μ (.loc n) with
    | some xs => (toPys xs).map .list
    | none => none
  | d => toPy d
mutual
theorem Rep.dp {T : Tab} {Z : Wd} {H : Hp} (s : Same Z.g H) : ∀ {d : D} {v : V} {p : PyData}, Rep T Z d v → toPy d = some p → Dp T.K H v p
  | _, _, _, .non, e => by cases e; exact .non
  | _, _, _, .bl b, e => by cases e; exact .bl b
  | _, _, _, .int i, e => by cases e; exact .int i
  | _, _, _, .str x, e => by cases e; exact .str x
  | _, _, _, .ty n, e => by cases e
  | .lst xs, _, _, .lst h r, e => by
    simp only [toPy] at e
    cases q : toPys xs with
    | none => rw [q] at e; cases e
    | some ps =>
      rw [q] at e
      cases e
      exact .lst (SqL.of (s _ _ h)) (Reps.dp s r q)
  | _, _, _, .scr h r, e => by cases e
  | .tup xs, _, _, .tup h r, e => by
    simp only [toPy] at e
    cases q : toPys xs with
    | none => rw [q] at e; cases e
    | some ps =>
      rw [q] at e
      cases e
      exact .tup (Same.sqt s h) (Reps.dp s r q)
  | _, _, _, .dic h r, e => by cases e
  | _, _, _, .ins h r, e => by cases e
  | _, _, _, .exc h h' r, e => by cases e
  | _, _, _, .exc0 h, e => by cases e
  | _, _, _, .cls a, e => by cases e
  | _, _, _, .ref a, e => by cases e
  | _, _, _, .loc h, e => by cases e
theorem Reps.dp {T : Tab} {Z : Wd} {H : Hp} (s : Same Z.g H) : ∀ {d : List D} {v : List V} {p : List PyData}, Reps T Z d v → toPys d = some p → DpAll T.K H v p
  | _, _, _, .nil, e => by cases e; exact .nil
  | x :: xs, _, _, .cons h r, e => by
    simp only [toPys] at e
    split at e
    · rename_i p ps e1 e2
      cases e
      exact .cons (Rep.dp s h e1) (Reps.dp s r e2)
    · cases e
end
theorem dp_of {T : Tab} {Z : Wd} {H : Hp} {μ : Store} {d : D} {v : V} {p : PyData} (g : Good T Z H μ) (r : Rep T Z d v) (e : pyOf μ d = some p) : Dp T.K H v p := by
  cases d with
  | loc n =>
    simp only [pyOf] at e
    split at e
    · rename_i xs q
      obtain ⟨a, vs, h1, h2, h3⟩ := at_l g r q
      subst h1
      cases w : toPys xs with
      | none => rw [w] at e; cases e
      | some ps =>
        rw [w] at e
        cases e
        exact .lst (SqL.of h2) (h3.dp g.sub w)
    · cases e
  | _ => exact r.dp g.sub e
def eqP : Op2 := fun x y μ => match pyOf μ x, pyOf μ y with
  | some p, some q => if SeqAt.shaped p = true ∧ SeqAt.shaped q = true then some (.bl (PyData.eqv p q)) else none
  | _, _ => none
def neP : Op2 := fun x y μ => match pyOf μ x, pyOf μ y with
  | some p, some q => if SeqAt.shaped p = true ∧ SeqAt.shaped q = true then some (.bl (!PyData.eqv p q)) else none
  | _, _ => none
section
variable {X : Cx} {c : Nat → Addr}
theorem o_eqP (hu : X.A.units + 64 < cLine) : OpR X (compareOp .Eq) (rdO (tb X c) eqP) := by
  refine OpR.imp (op_eqD hu) fun x y H Q ⟨Z, μ, dx, dy, d, g, r1, r2, e, q⟩ => ?_
  simp only [eqP] at e
  split at e
  · rename_i p1 p2 e1 e2
    split at e
    · rename_i hs
      cases e
      exact ⟨p1, p2, dp_of g r1 e1, dp_of g r2 e2, hs.1, hs.2, q Z H _ Step.rfl g (.bl _)⟩
    · cases e
  · cases e
theorem o_neP (hu : X.A.units + 64 < cLine) : OpR X (compareOp .NotEq) (rdO (tb X c) neP) := by
  refine OpR.imp (op_neD hu) fun x y H Q ⟨Z, μ, dx, dy, d, g, r1, r2, e, q⟩ => ?_
  simp only [neP] at e
  split at e
  · rename_i p1 p2 e1 e2
    split at e
    · rename_i hs
      cases e
      exact ⟨p1, p2, dp_of g r1 e1, dp_of g r2 e2, hs.1, hs.2, q Z H _ Step.rfl g (.bl _)⟩
    · cases e
  · cases e
end
end DL

set_option Elab.async false
set_option linter.all false
set_option autoImplicit false
set_option maxRecDepth 100000
/-! DL, part d: arguments, displays, calls of built-ins, subscripts, tests. -/
namespace DL
open PySem L2

/-! ### forms of expressions -/
def notStar : Expr → Bool
  | .Starred .. => false
  | _ => true
theorem star_cons {e : Expr} (h : notStar e = true) (es : List Expr) (env : PySem.Env) : starEach (e :: es) env = (false, eval e env) :: starEach es env := by
  cases e <;> first | rfl | cases h
theorem star_any {pos : Pos} {env : PySem.Env} : ∀ {es : List Expr}, es.all notStar = true → (backTo pos (starEach es env)).any (·.1) = false
  | [], _ => rfl
  | e :: es, h => by
    rw [List.all_cons] at h
    obtain ⟨h1, h2⟩ := Bool.and_eq_true_iff.mp h
    rw [star_cons h1]
    have ih := star_any (pos := pos) (env := env) h2
    unfold backTo at ih ⊢
    rw [List.map_cons, List.any_cons, ih]
    rfl
/-- an expression whose test is its value's truth -/
def testPlain : Expr → Bool
  | .UnaryOp .Not .. => false
  | .BoolOp .. => false
  | .IfExp .. => false
  | .Compare .. => false
  | _ => true
theorem isTrue_of {e : Expr} (h : testPlain e = true) (env : PySem.Env) (whole : Sem Value) : isTrue e env whole = (do let v ← whole; standAt e.pos; holding [v] (truthy v)) := by
  cases e with
  | UnaryOp op x p => cases op <;> first | rfl | cases h
  | _ => first | rfl | cases h
def notSlice : Expr → Bool
  | .Slice .. => false
  | _ => true
theorem plainIx_of {b : Expr} (h : notSlice b = true) : PlainIx b := by
  intro o i
  cases b <;> first | rfl | cases h
def notComp : Expr → Bool
  | .ListComp .. => false
  | .SetComp .. => false
  | .DictComp .. => false
  | _ => true
theorem swaps_of {e : Expr} (h : notComp e = true) (t : Option Expr) (l : Nat) (env : PySem.Env) : swapsWith e t l env = pure false := by
  cases e <;> first | rfl | cases h

/-! ### arguments and displays -/
def dNil : DenA := fun _ μ => .ok [] μ
def dCons (δ : DenE) (δs : DenA) : DenA := fun ρ μ => (δ ρ μ).bind fun x μ1 => (δs ρ μ1).bind fun xs μ2 => .ok (x :: xs) μ2
def kLst (xs : List D) (μ : Store) : Res D := if xs.length ≤ sizeLine then .ok (.lst xs) μ else .bad
def kTup (xs : List D) (μ : Store) : Res D := if xs.length ≤ sizeLine then .ok (.tup xs) μ else .bad
def kLstM (xs : List D) (μ : Store) : Res D := if xs.length ≤ sizeLine then .ok (.loc μ.length) (μ ++ [some (.lst xs)]) else .bad
def dLst (δs : DenA) : DenE := fun ρ μ => (δs ρ μ).bind kLst
def dTup (δs : DenA) : DenE := fun ρ μ => (δs ρ μ).bind kTup
def dLstM (δs : DenA) : DenE := fun ρ μ => (δs ρ μ).bind kLstM
theorem good_put {T : Tab} {Z : Wd} {H : Hp} {μ : Store} (g : Good T Z H μ) {p : Addr} {m : MO} {o : HO} (hp : H p = none) (r : RepM T Z m o) : Good T (Z.put p) (upd H p o) (μ ++ [some m]) := by
  have np : p ∉ Z.f := fun hm => g.there p hm hp
  · refine ⟨fun b u e => ?_, ?_, ?_, fun a ha z => ?_, fun n a m' e1 e2 => ?_⟩
    · rw [upd_ne (ne_of_none (g.sub b u e) hp)]
      exact g.sub b u e
    · show (Z.f ++ [p]).length = _
      rw [List.length_append, List.length_append, g.len, List.length_singleton, List.length_singleton]
    · show (Z.f ++ [p]).Nodup
      rw [List.nodup_append]
      refine ⟨g.inj, by simp, fun a ha b hb => ?_⟩
      rw [List.mem_singleton] at hb
      subst hb
      exact fun z => np (z ▸ ha)
    · by_cases hb : a = p
      · rw [hb, upd_same] at z
        cases z
      · rw [upd_ne hb] at z
        have ha' : a ∈ Z.f ++ [p] := ha
        rcases List.mem_append.mp ha' with q | q
        · exact g.there a q z
        · exact hb (List.mem_singleton.mp q)
    · have e1' : (Z.f ++ [p])[n]? = some a := e1
      by_cases hn : n < Z.f.length
      · rw [List.getElem?_append_left hn] at e1'
        rw [List.getElem?_append_left (by rw [← g.len]; exact hn)] at e2
        obtain ⟨h0, u, h1, h2⟩ := g.obj n a m' e1' e2
        exact ⟨h0, u, by rw [upd_ne (ne_of_none h1 hp)]; exact h1, h2.mono Le.put⟩
      · rw [List.getElem?_append_right (by omega)] at e1'
        rw [List.getElem?_append_right (by rw [← g.len]; omega)] at e2
        have q : n - Z.f.length = 0 := by
          obtain ⟨h, _⟩ := List.getElem?_eq_some_iff.mp e1'
          simp at h
          omega
        rw [q] at e1'
        rw [← g.len, q] at e2
        have ea : p = a := by simpa using e1'
        have em : m = m' := by simpa using e2
        subst ea
        subst em
        exact ⟨g.free hp, o, upd_same, r.mono Le.put⟩

section
variable {X : Cx} {c : Nat → Addr} {W : WX} {pos : Pos}
theorem da_nil : PA X [] (rdA (tb X c) W dNil) := PA.imp pa_nil fun σ H Q ⟨Z, ρ, μ, g, s, h⟩ => h Z H [] Step.rfl g .nil
theorem da_cons {e : Expr} {es : List Expr} {δ : DenE} {δs : DenA} (hs : notStar e = true) (ha : PE X e (rdE (tb X c) W δ)) (hr : PA X es (rdA (tb X c) W δs)) : PA X (e :: es) (rdA (tb X c) W (dCons δ δs)) := by
  refine PA.imp (pa_cons ha hr (star_cons hs es X.env)) fun σ H Q h => ?_
  have h1 := rd_then (R := Rep (tb X c)) (f := fun ρ x μ1 => (δs ρ μ1).bind fun xs μ2 => .ok (x :: xs) μ2) h
  obtain ⟨Z, ρ, μ, g, s, h1⟩ := h1
  refine ⟨Z, ρ, μ, g, s, post_mono h1 fun x H1 ⟨Z1, ρ1, dx, μ1, g1, s1, rx, q1⟩ => ?_⟩
  refine ⟨Z1, ρ1, μ1, g1, s1, post_mono (post_bind (R := Reps (tb X c)) q1) fun xs H2 ⟨Z2, dxs, μ2, l2, g2, rxs, q2⟩ => ?_⟩
  exact q2 Z2 H2 _ Step.rfl g2 (.cons (rx.mono l2.le) rxs)
theorem de_lst {es : List Expr} {δs : DenA} (h : PA X es (rdA (tb X c) W δs)) : PE X (.List es pos) (rdE (tb X c) W (dLst δs)) := by
  refine PE.imp (pe_lst h) fun σ H Q h => ?_
  obtain ⟨Z, ρ, μ, g, s, h1⟩ := rd_then (R := Reps (tb X c)) (f := fun _ => kLst) h
  refine ⟨Z, ρ, μ, g, s, post_mono h1 fun xs H1 ⟨Z1, ρ1, dxs, μ1, g1, s1, rx, q1⟩ => ?_⟩
  simp only [kLst, kTup, kLstM] at q1
  by_cases hl : dxs.length ≤ sizeLine
  · simp only [if_pos hl] at q1
    exact ⟨by rw [← rx.length]; exact hl, new_lst g1 rx q1⟩
  · simp only [if_neg hl] at q1
    exact False.elim q1
theorem de_tup {es : List Expr} {k : Nat} {δs : DenA} (h : PA X es (rdA (tb X c) W δs)) : PE X (.Tuple es k pos) (rdE (tb X c) W (dTup δs)) := by
  refine PE.imp (pe_tup h) fun σ H Q h => ?_
  obtain ⟨Z, ρ, μ, g, s, h1⟩ := rd_then (R := Reps (tb X c)) (f := fun _ => kTup) h
  refine ⟨Z, ρ, μ, g, s, post_mono h1 fun xs H1 ⟨Z1, ρ1, dxs, μ1, g1, s1, rx, q1⟩ => ?_⟩
  simp only [kLst, kTup, kLstM] at q1
  by_cases hl : dxs.length ≤ sizeLine
  · simp only [if_pos hl] at q1
    exact ⟨by rw [← rx.length]; exact hl, new_tup g1 rx q1⟩
  · simp only [if_neg hl] at q1
    exact False.elim q1
theorem de_lstM {es : List Expr} {δs : DenA} (h : PA X es (rdA (tb X c) W δs)) : PE X (.List es pos) (rdE (tb X c) W (dLstM δs)) := by
  refine PE.imp (pe_lst h) fun σ H Q h => ?_
  obtain ⟨Z, ρ, μ, g, s, h1⟩ := rd_then (R := Reps (tb X c)) (f := fun _ => kLstM) h
  refine ⟨Z, ρ, μ, g, s, post_mono h1 fun xs H1 ⟨Z1, ρ1, dxs, μ1, g1, s1, rx, q1⟩ => ?_⟩
  simp only [kLst, kTup, kLstM] at q1
  by_cases hl : dxs.length ≤ sizeLine
  · simp only [if_pos hl] at q1
    refine ⟨by rw [← rx.length]; exact hl, fun p hp => q1 (Z1.put p) _ _ (Step.put hp) (good_put g1 hp (.lst rx)) (.loc ?_)⟩
    show (Z1.f ++ [p])[μ1.length]? = some p
    rw [List.getElem?_append_right (by rw [g1.len]; exact Nat.le_refl _), g1.len, Nat.sub_self]
    rfl
  · simp only [if_neg hl] at q1
    exact False.elim q1
end

/-! ### calls of built-ins -/
abbrev OpN := List D → Store → Option D
def rdC (T : Tab) (o : OpN) : List V → Hp → VK → Prop := fun vs H Q => ∃ Z μ ds d, Good T Z H μ ∧ Reps T Z ds vs ∧ o ds μ = some d ∧ ∀ Z' H' v, Step Z H Z' H' → Good T Z' H' μ → Rep T Z' d v → Q v H'
theorem CallR.imp {X : Cx} {f : Value} {r r' : List V → Hp → VK → Prop} (h : CallR X f r) (i : ∀ vs H Q, r' vs H Q → r vs H Q) : CallR X f r' := fun pins s σ H vs us Q I r1 w => h pins s σ H vs us Q I r1 (i vs H Q w)
theorem CallR.or {X : Cx} {f : Value} {r r' : List V → Hp → VK → Prop} (h : CallR X f r) (h' : CallR X f r') : CallR X f (fun vs H Q => r vs H Q ∨ r' vs H Q) := fun pins s σ H vs us Q I r1 w => w.elim (h pins s σ H vs us Q I r1) (h' pins s σ H vs us Q I r1)
def dBlt (o : OpN) (δs : DenA) : DenE := fun ρ μ => (δs ρ μ).bind fun xs μ1 => ofO (o xs μ1) μ1
theorem rd_blt {T : Tab} {W : WX} {o : OpN} {δs : DenA} {σ : St} {H : Hp} {Q : VK} (h : rdE T W (dBlt o δs) σ H Q) : tCB (rdC T o) (rdA T W δs) σ H Q := by
  obtain ⟨Z, ρ, μ, g, s, h1⟩ := rd_then (R := Reps T) (f := fun _ xs μ1 => ofO (o xs μ1) μ1) h
  refine ⟨Z, ρ, μ, g, s, post_mono h1 fun xs H1 ⟨Z1, ρ1, dxs, μ1, g1, s1, rx, q1⟩ => ?_⟩
  unfold ofO at q1
  cases e : o dxs μ1 with
  | none =>
    simp only [e] at q1
    exact False.elim q1
  | some d =>
    simp only [e] at q1
    exact ⟨Z1, μ1, dxs, d, g1, rx, e, q1⟩
section
variable {X : Cx} {c : Nat → Addr} {W : WX} {pos p : Pos} {x : Str} {e : Expr} {es : List Expr} {δs : DenA} {o : OpN}
theorem de_blt {id : String} (ho : CallR X (.builtin id) (rdC (tb X c) o)) (hg : Gl X x) (hm : X.mg x = none) (hv : bootBuiltins x = some (.builtin id)) (hst : (e :: es).all notStar = true) (ha : PA X (e :: es) (rdA (tb X c) W δs))
    (hn : x ≠ "__name__") (hdb : (x == ("__debug__" : Str)) = false) : PE X (.Call (.Name x p) (e :: es) [] pos) (rdE (tb X c) W (dBlt o δs)) := by
  rw [List.all_cons] at hst
  obtain ⟨h1, h2⟩ := Bool.and_eq_true_iff.mp hst
  exact PE.imp (pe_callB ho hg hm hv ha hn hdb (star_cons h1 es X.env) (star_any h2)) fun _ _ _ h => rd_blt h
theorem de_bty {id : String} (ho : CallR X (.type id) (rdC (tb X c) o)) (hg : Gl X x) (hm : X.mg x = none) (hv : bootBuiltins x = some (.type id)) (hst : (e :: es).all notStar = true) (ha : PA X (e :: es) (rdA (tb X c) W δs))
    (hn : x ≠ "__name__") (hdb : (x == ("__debug__" : Str)) = false) : PE X (.Call (.Name x p) (e :: es) [] pos) (rdE (tb X c) W (dBlt o δs)) := by
  rw [List.all_cons] at hst
  obtain ⟨h1, h2⟩ := Bool.and_eq_true_iff.mp hst
  exact PE.imp (pe_callTy ho hg hm hv ha hn hdb (star_cons h1 es X.env) (star_any h2)) fun _ _ _ h => rd_blt h
end
def lenB : OpN := fun ds μ => match ds with
  | [d] => (asS μ d).map fun xs => .int xs.length
  | _ => none
def absB : OpN := fun ds _ => match ds with
  | [.int i] => some (.int (if i < 0 then -i else i))
  | _ => none
def max2B : OpN := fun ds _ => match ds with
  | [.int i, .int j] => some (.int (if j > i then j else i))
  | _ => none
def min2B : OpN := fun ds _ => match ds with
  | [.int i, .int j] => some (.int (if j < i then j else i))
  | _ => none
def intB : OpN := fun ds _ => match ds with
  | [.int i] => some (.int i)
  | [.bl b] => some (.int (if b then 1 else 0))
  | _ => none
def divmodB : OpN := fun ds _ => match ds with
  | [.int i, .int j] => if 0 < j ∧ j < 1073741824 then some (.tup [.int (i / j), .int (i % j)]) else none
  | _ => none
def strB : OpN := fun ds _ => match ds with
  | [.int i] => if i.natAbs.log2 < 1920 then some (.str (toString i)) else none
  | _ => none
def bools : List D → Option (List Bool)
  | [] => some []
  | .bl b :: r => (bools r).map (b :: ·)
  | _ => none
def allB : OpN := fun ds μ => match ds with
  | [d] => match asL μ d with
    | some xs => (bools xs).map fun bs => .bl (bs.all id)
    | none => none
  | _ => none
theorem reps_bools {T : Tab} {Z : Wd} : ∀ {ds : List D} {vs : List V} {bs : List Bool}, Reps T Z ds vs → bools ds = some bs → vs = bs.map V.bl
  | _, _, _, .nil, e => by cases e; rfl
  | d :: ds, _, bs, .cons h r, e => by
    cases h with
    | bl b =>
      simp only [bools] at e
      cases q : bools ds with
      | none => rw [q] at e; cases e
      | some bs' =>
        rw [q] at e
        cases e
        rw [reps_bools r q]
        rfl
    | _ => cases e
section
variable {X : Cx} {c : Nat → Addr}
theorem c_len : CallR X (.builtin "len") (rdC (tb X c) lenB) := by
  refine CallR.imp call_len_seq fun vs H Q ⟨Z, μ, ds, d, g, r, e, q⟩ => ?_
  simp only [lenB] at e
  split at e
  · rename_i d1
    cases w : asS μ d1 with
    | none => rw [w] at e; cases e
    | some xs =>
      rw [w] at e
      cases e
      cases r with
      | cons r1 r2 =>
        cases r2
        obtain ⟨a, ws, h1, h2, h3⟩ := at_s g r1 w
        subst h1
        exact ⟨a, ws, rfl, h2, q Z H _ Step.rfl g (by show Rep _ Z (D.int xs.length) _; rw [h3.length]; exact .int _)⟩
  · cases e
theorem c_abs : CallR X (.builtin "abs") (rdC (tb X c) absB) := by
  refine CallR.imp call_abs fun vs H Q ⟨Z, μ, ds, d, g, r, e, q⟩ => ?_
  simp only [absB] at e
  split at e
  · rename_i i
    cases e
    cases r with
    | cons r1 r2 =>
      cases r2
      cases r1
      exact ⟨i, rfl, q Z H _ Step.rfl g (.int _)⟩
  · cases e
theorem c_max2 (hc : X.calm = true) : CallR X (.builtin "max") (rdC (tb X c) max2B) := by
  refine CallR.imp (call_max2 hc) fun vs H Q ⟨Z, μ, ds, d, g, r, e, q⟩ => ?_
  simp only [max2B] at e
  split at e
  · rename_i i j
    cases e
    cases r with
    | cons r1 r2 =>
      cases r2 with
      | cons r2 r3 =>
        cases r3
        cases r1
        cases r2
        exact ⟨i, j, rfl, q Z H _ Step.rfl g (.int _)⟩
  · cases e
theorem c_min2 (hc : X.calm = true) : CallR X (.builtin "min") (rdC (tb X c) min2B) := by
  refine CallR.imp (call_min2 hc) fun vs H Q ⟨Z, μ, ds, d, g, r, e, q⟩ => ?_
  simp only [min2B] at e
  split at e
  · rename_i i j
    cases e
    cases r with
    | cons r1 r2 =>
      cases r2 with
      | cons r2 r3 =>
        cases r3
        cases r1
        cases r2
        exact ⟨i, j, rfl, q Z H _ Step.rfl g (.int _)⟩
  · cases e
theorem c_int : CallR X (.type "int") (rdC (tb X c) intB) := by
  refine CallR.imp call_int1 fun vs H Q ⟨Z, μ, ds, d, g, r, e, q⟩ => ?_
  simp only [intB] at e
  split at e
  · rename_i i
    cases e
    cases r with
    | cons r1 r2 =>
      cases r2
      cases r1
      exact .inl ⟨i, rfl, q Z H _ Step.rfl g (.int _)⟩
  · rename_i b
    cases e
    cases r with
    | cons r1 r2 =>
      cases r2
      cases r1
      exact .inr ⟨b, rfl, q Z H _ Step.rfl g (.int _)⟩
  · cases e
theorem c_divmod : CallR X (.builtin "divmod") (rdC (tb X c) divmodB) := by
  refine CallR.imp call_divmod fun vs H Q ⟨Z, μ, ds, d, g, r, e, q⟩ => ?_
  simp only [divmodB] at e
  split at e
  · rename_i i j
    split at e
    · rename_i hc
      cases e
      cases r with
      | cons r1 r2 =>
        cases r2 with
        | cons r2 r3 =>
          cases r3
          cases r1
          cases r2
          exact ⟨i, j, rfl, hc, new_tup g (.cons (.int _) (.cons (.int _) .nil)) q⟩
    · cases e
  · cases e
theorem c_str : CallR X (.type "str") (rdC (tb X c) strB) := by
  refine CallR.imp call_str_int fun vs H Q ⟨Z, μ, ds, d, g, r, e, q⟩ => ?_
  simp only [strB] at e
  split at e
  · rename_i i
    split at e
    · rename_i hc
      cases e
      cases r with
      | cons r1 r2 =>
        cases r2
        cases r1
        exact ⟨i, rfl, hc, q Z H _ Step.rfl g (.str _)⟩
    · cases e
  · cases e
theorem c_all (hc : X.calm = true) : CallR X (.builtin "all") (rdC (tb X c) allB) := by
  refine CallR.imp (cr_all hc) fun vs H Q ⟨Z, μ, ds, d, g, r, e, q⟩ => ?_
  simp only [allB] at e
  split at e
  · rename_i d1
    split at e
    · rename_i xs w
      cases w2 : bools xs with
      | none => rw [w2] at e; cases e
      | some bs =>
        rw [w2] at e
        cases e
        cases r with
        | cons r1 r2 =>
          cases r2
          obtain ⟨a, ws, h1, h2, h3⟩ := at_l g r1 w
          subst h1
          have hb := reps_bools h3 w2
          subst hb
          exact ⟨a, bs, rfl, SqL.of h2, q Z H _ Step.rfl g (.bl _)⟩
    · cases e
  · cases e
end

/-! ### subscripts -/
def ixD : Op2 := fun x y μ => match asS μ x, y with
  | some xs, .int i => atI xs i
  | _, _ => none
theorem Reps.atI {T : Tab} {Z : Wd} {ds : List D} {vs : List V} {i : Int} {d : D} (r : Reps T Z ds vs) (e : L2.atI ds i = some d) : ∃ v, L2.atI vs i = some v ∧ Rep T Z d v := by
  unfold L2.atI at e ⊢
  rw [← r.length]
  cases q : ixN ds.length i with
  | none => rw [q] at e; cases e
  | some j =>
    rw [q] at e
    exact r.get e
theorem IxR.imp {X : Cx} {r r' : R2} (h : IxR X r) (i : ∀ x y H Q, r' x y H Q → r x y H Q) : IxR X r' := fun value slice pins s σ H x y v u Q I r1 r2 w => h value slice pins s σ H x y v u Q I r1 r2 (i x y H Q w)
theorem i_ix {X : Cx} {c : Nat → Addr} : IxR X (rdO (tb X c) ixD) := by
  refine IxR.imp ix_seq fun x y H Q ⟨Z, μ, dx, dy, d, g, r1, r2, e, q⟩ => ?_
  simp only [ixD] at e
  split at e
  · rename_i xs i w
    cases r2
    obtain ⟨a, ws, h1, h2, h3⟩ := at_s g r1 w
    obtain ⟨v, e2, rv⟩ := h3.atI e
    rcases h2 with h2 | h2
    · exact .inl ⟨a, ws, i, v, h1, rfl, h2, e2, q Z H v Step.rfl g rv⟩
    · exact .inr (.inl ⟨a, ws, i, v, h1, rfl, h2, e2, q Z H v Step.rfl g rv⟩)
  · cases e
section
variable {X : Cx} {c : Nat → Addr} {W : WX} {pos : Pos} {a b : Expr} {δa δb : DenE}
theorem de_ix (ha : PE X a (rdE (tb X c) W δa)) (hb : PE X b (rdE (tb X c) W δb)) (hs : notSlice b = true) : PE X (.Subscript a b pos) (rdE (tb X c) W (dBin ixD δa δb)) :=
  PE.imp (pe_ix i_ix ha hb (plainIx_of hs)) fun _ _ _ h => rd_bin h
/-- -a -/
def negD : D → Option D
  | .int i => some (.int (-i))
  | _ => none
def dUn (o : D → Option D) (δ : DenE) : DenE := fun ρ μ => (δ ρ μ).bind fun x μ1 => ofO (o x) μ1
theorem de_neg (ha : PE X a (rdE (tb X c) W δa)) : PE X (.UnaryOp .USub a pos) (rdE (tb X c) W (dUn negD δa)) := by
  refine PE.imp (pe_un un_neg ha) fun σ H Q h => ?_
  obtain ⟨Z, ρ, μ, g, s, h1⟩ := rd_then (R := Rep (tb X c)) (f := fun _ x μ1 => ofO (negD x) μ1) h
  refine ⟨Z, ρ, μ, g, s, post_mono h1 fun x H1 ⟨Z1, ρ1, dx, μ1, g1, s1, rx, q1⟩ => ?_⟩
  cases rx with
  | int i => exact ⟨i, rfl, q1 Z1 H1 _ Step.rfl g1 (.int _)⟩
  | _ => exact False.elim q1
end

/-! ### tests -/
def truD (μ : Store) : D → Option Bool
  | .non => some false
  | .bl b => some b
  | .int i => some (i != 0)
  | .str x => if x.length ≤ sizeLine then some ((x.length : Int) != 0) else none
  | .dic kvs => some (!kvs.isEmpty)
  | d => (asS μ d).map fun xs => !xs.isEmpty
theorem Reps.isEmpty {T : Tab} {Z : Wd} {ds : List D} {vs : List V} (r : Reps T Z ds vs) : ds.isEmpty = vs.isEmpty := by
  cases r <;> rfl
theorem RepK.isEmpty {T : Tab} {Z : Wd} {ds : List (Key × D)} {vs : List (Key × V)} (r : RepK T Z ds vs) : ds.isEmpty = vs.isEmpty := by
  cases r <;> rfl
theorem seq_tru {T : Tab} {Z : Wd} {H : Hp} {μ : Store} {d : D} {v : V} {b : Bool} (g : Good T Z H μ) (r : Rep T Z d v) (e : ((asS μ d).map fun xs => !xs.isEmpty) = some b) : TruV T.K v H b := by
  cases w : asS μ d with
  | none => rw [w] at e; cases e
  | some xs =>
    rw [w] at e
    have e' : (!xs.isEmpty) = b := Option.some.inj e
    obtain ⟨a, ws, h1, h2, h3⟩ := at_s g r w
    subst h1
    rw [h3.isEmpty] at e'
    rcases h2 with h2 | h2
    · exact .inl ⟨ws, h2, e'.symm⟩
    · exact .inr (.inl ⟨ws, h2, e'.symm⟩)
theorem tru_of {T : Tab} {Z : Wd} {H : Hp} {μ : Store} {d : D} {v : V} {b : Bool} (g : Good T Z H μ) (r : Rep T Z d v) (e : truD μ d = some b) : TruV T.K v H b := by
  cases r with
  | non => cases e; rfl
  | bl b => cases e; rfl
  | int i => cases e; rfl
  | str x =>
    simp only [truD] at e
    split at e
    · rename_i h
      cases e
      exact ⟨h, rfl⟩
    · cases e
  | dic h r =>
    cases e
    exact .inr (.inr ⟨_, g.sub _ _ h, by rw [r.isEmpty]⟩)
  | lst h r => exact seq_tru (d := .lst _) g (.lst h r) e
  | scr h r => exact seq_tru (d := .scr _) g (.scr h r) e
  | tup h r => exact seq_tru (d := .tup _) g (.tup h r) e
  | loc h => exact seq_tru (d := .loc _) g (.loc h) e
  | ty n => cases e
  | ins h r => cases e
  | exc h h' r => cases e
  | exc0 h => cases e
  | cls a => cases e
  | ref a => cases e
def dTru (δ : DenE) : DenT := fun ρ μ => (δ ρ μ).bind fun x μ1 => ofO (truD μ1 x) μ1
def dIsB (δ : DenE) : DenT := fun ρ μ => (δ ρ μ).bind fun x μ1 => match x with
  | .bl b => .ok b μ1
  | _ => .bad
def dAndT (δ δ' : DenT) : DenT := fun ρ μ => (δ ρ μ).bind fun b μ1 => if b = true then δ' ρ μ1 else .ok false μ1
def dOrT (δ δ' : DenT) : DenT := fun ρ μ => (δ ρ μ).bind fun b μ1 => if b = true then .ok true μ1 else δ' ρ μ1
def dNotT (δ : DenT) : DenT := fun ρ μ => (δ ρ μ).bind fun b μ1 => .ok (!b) μ1
def dAndV (δ δ' : DenE) : DenE := fun ρ μ => (δ ρ μ).bind fun x μ1 => match x with
  | .bl b => if b = true then δ' ρ μ1 else .ok (.bl false) μ1
  | _ => .bad
def dOrV (δ δ' : DenE) : DenE := fun ρ μ => (δ ρ μ).bind fun x μ1 => match x with
  | .bl b => if b = true then .ok (.bl true) μ1 else δ' ρ μ1
  | _ => .bad
def dNotV (δ : DenE) : DenE := fun ρ μ => (δ ρ μ).bind fun x μ1 => match x with
  | .bl b => .ok (.bl (!b)) μ1
  | _ => .bad
def dIf (t : DenT) (δ δ' : DenE) : DenE := fun ρ μ => (t ρ μ).bind fun b μ1 => if b = true then δ ρ μ1 else δ' ρ μ1
section
variable {X : Cx} {c : Nat → Addr} {W : WX} {pos : Pos} {a b : Expr} {rest : List Expr} {δ δ' : DenE} {t t' : DenT}
theorem dt_tru (he : testPlain a = true) (h : PE X a (rdE (tb X c) W δ)) : PT X a (rdT (tb X c) W (dTru δ)) := by
  refine PT.imp (pt_truth h (isTrue_of he X.env)) fun σ H Q h => ?_
  obtain ⟨Z, ρ, μ, g, s, h1⟩ := rd_then (R := Rep (tb X c)) (f := fun _ x μ1 => ofO (truD μ1 x) μ1) h
  refine ⟨Z, ρ, μ, g, s, post_mono h1 fun x H1 ⟨Z1, ρ1, dx, μ1, g1, s1, rx, q1⟩ => ?_⟩
  cases e : truD μ1 dx with
  | none =>
    simp only [ofO, e] at q1
    exact False.elim q1
  | some b =>
    simp only [ofO, e] at q1
    exact ⟨b, tru_of g1 rx e, q1 Z1 H1 b Step.rfl g1 rfl⟩
theorem dt_cmp {op : CmpOp} {o : Op2} {δa δb : DenE} (ho : OpR X (compareOp op) (rdO (tb X c) o)) (ha : PE X a (rdE (tb X c) W δa)) (hb : PE X b (rdE (tb X c) W δb)) (hm : behindInMarks op b = false) : PT X (.Compare a [op] [b] pos) (rdT (tb X c) W (dIsB (dBin o δa δb))) := by
  refine PT.imp (pt_cmpR ho ha hb hm) fun σ H Q h => ?_
  refine rd_bin ?_
  obtain ⟨Z, ρ, μ, g, s, h1⟩ := rd_then (R := Rep (tb X c)) (f := fun _ x μ1 => (match x with
    | .bl b => .ok b μ1
    | _ => .bad : Res Bool)) h
  refine ⟨Z, ρ, μ, g, s, post_mono h1 fun x H1 ⟨Z1, ρ1, dx, μ1, g1, s1, rx, q1⟩ => ?_⟩
  cases rx with
  | bl k => exact ⟨k, rfl, q1 Z1 H1 k Step.rfl g1 rfl⟩
  | _ => exact False.elim q1
theorem post_ite {α β : Type} {T : Tab} {R : Wd → α → β → Prop} {Z : Wd} {H : Hp} {σ : St} {b : Bool} {x y : Res α} {Q : β → Hp → Prop} (h : post T R W Z H σ (if b = true then x else y) Q) : if b = true then post T R W Z H σ x Q else post T R W Z H σ y Q := by
  cases b <;> exact h
theorem dw_and1 (ha : PT X a (rdT (tb X c) W t)) : PW X (.BoolOp .And [a] pos) (rdT (tb X c) W t) := pw_and1 ha
theorem dw_or1 (ha : PT X a (rdT (tb X c) W t)) : PW X (.BoolOp .Or [a] pos) (rdT (tb X c) W t) := pw_or1 ha
theorem dw_and (ha : PT X a (rdT (tb X c) W t)) (hb : PW X (.BoolOp .And (b :: rest) pos) (rdT (tb X c) W t')) : PW X (.BoolOp .And (a :: b :: rest) pos) (rdT (tb X c) W (dAndT t t')) := by
  refine PW.imp (pw_and ha hb) fun σ H Q h => ?_
  obtain ⟨Z, ρ, μ, g, s, h1⟩ := rd_then (R := EqB) (f := fun ρ b μ1 => if b = true then t' ρ μ1 else .ok false μ1) h
  refine ⟨Z, ρ, μ, g, s, post_mono h1 fun x H1 ⟨Z1, ρ1, dx, μ1, g1, s1, rx, q1⟩ => ?_⟩
  have rx' : dx = x := rx
  subst rx'
  cases dx with
  | true => exact ⟨Z1, ρ1, μ1, g1, s1, q1⟩
  | false => exact q1 Z1 H1 false Step.rfl g1 rfl
theorem dw_or (ha : PT X a (rdT (tb X c) W t)) (hb : PW X (.BoolOp .Or (b :: rest) pos) (rdT (tb X c) W t')) : PW X (.BoolOp .Or (a :: b :: rest) pos) (rdT (tb X c) W (dOrT t t')) := by
  refine PW.imp (pw_or ha hb) fun σ H Q h => ?_
  obtain ⟨Z, ρ, μ, g, s, h1⟩ := rd_then (R := EqB) (f := fun ρ b μ1 => if b = true then .ok true μ1 else t' ρ μ1) h
  refine ⟨Z, ρ, μ, g, s, post_mono h1 fun x H1 ⟨Z1, ρ1, dx, μ1, g1, s1, rx, q1⟩ => ?_⟩
  have rx' : dx = x := rx
  subst rx'
  cases dx with
  | false => exact ⟨Z1, ρ1, μ1, g1, s1, q1⟩
  | true => exact q1 Z1 H1 true Step.rfl g1 rfl
theorem dt_not (ha : PT X a (rdT (tb X c) W t)) : PT X (.UnaryOp .Not a pos) (rdT (tb X c) W (dNotT t)) := by
  refine PT.imp (pt_not ha) fun σ H Q h => ?_
  obtain ⟨Z, ρ, μ, g, s, h1⟩ := rd_then (R := EqB) (f := fun _ b μ1 => .ok (!b) μ1) h
  refine ⟨Z, ρ, μ, g, s, post_mono h1 fun x H1 ⟨Z1, ρ1, dx, μ1, g1, s1, rx, q1⟩ => ?_⟩
  have rx' : dx = x := rx
  subst rx'
  exact q1 Z1 H1 _ Step.rfl g1 rfl
theorem de_one {op : BoolOp} (h : PE X a (rdE (tb X c) W δ)) : PE X (.BoolOp op [a] pos) (rdE (tb X c) W δ) := pe_one h
theorem de_and (ha : PE X a (rdE (tb X c) W δ)) (hb : PE X (.BoolOp .And (b :: rest) pos) (rdE (tb X c) W δ')) : PE X (.BoolOp .And (a :: b :: rest) pos) (rdE (tb X c) W (dAndV δ δ')) := by
  refine PE.imp (pe_and ha hb) fun σ H Q h => ?_
  obtain ⟨Z, ρ, μ, g, s, h1⟩ := rd_then (R := Rep (tb X c)) (f := fun ρ x μ1 => (match x with
    | .bl b => if b = true then δ' ρ μ1 else .ok (.bl false) μ1
    | _ => .bad : Res D)) h
  refine ⟨Z, ρ, μ, g, s, post_mono h1 fun x H1 ⟨Z1, ρ1, dx, μ1, g1, s1, rx, q1⟩ => ?_⟩
  cases rx with
  | bl k =>
    refine ⟨k, rfl, ?_⟩
    cases k with
    | true => exact ⟨Z1, ρ1, μ1, g1, s1, q1⟩
    | false => exact q1 Z1 H1 _ Step.rfl g1 (.bl false)
  | _ => exact False.elim q1
theorem de_or (ha : PE X a (rdE (tb X c) W δ)) (hb : PE X (.BoolOp .Or (b :: rest) pos) (rdE (tb X c) W δ')) : PE X (.BoolOp .Or (a :: b :: rest) pos) (rdE (tb X c) W (dOrV δ δ')) := by
  refine PE.imp (pe_or ha hb) fun σ H Q h => ?_
  obtain ⟨Z, ρ, μ, g, s, h1⟩ := rd_then (R := Rep (tb X c)) (f := fun ρ x μ1 => (match x with
    | .bl b => if b = true then .ok (.bl true) μ1 else δ' ρ μ1
    | _ => .bad : Res D)) h
  refine ⟨Z, ρ, μ, g, s, post_mono h1 fun x H1 ⟨Z1, ρ1, dx, μ1, g1, s1, rx, q1⟩ => ?_⟩
  cases rx with
  | bl k =>
    refine ⟨k, rfl, ?_⟩
    cases k with
    | false => exact ⟨Z1, ρ1, μ1, g1, s1, q1⟩
    | true => exact q1 Z1 H1 _ Step.rfl g1 (.bl true)
  | _ => exact False.elim q1
theorem de_not (ha : PE X a (rdE (tb X c) W δ)) : PE X (.UnaryOp .Not a pos) (rdE (tb X c) W (dNotV δ)) := by
  refine PE.imp (pe_not ha) fun σ H Q h => ?_
  obtain ⟨Z, ρ, μ, g, s, h1⟩ := rd_then (R := Rep (tb X c)) (f := fun _ x μ1 => (match x with
    | .bl b => .ok (.bl (!b)) μ1
    | _ => .bad : Res D)) h
  refine ⟨Z, ρ, μ, g, s, post_mono h1 fun x H1 ⟨Z1, ρ1, dx, μ1, g1, s1, rx, q1⟩ => ?_⟩
  cases rx with
  | bl k => exact ⟨k, rfl, q1 Z1 H1 _ Step.rfl g1 (.bl _)⟩
  | _ => exact False.elim q1
theorem de_if {e : Expr} (he : PT X e (rdT (tb X c) W t)) (ha : PE X a (rdE (tb X c) W δ)) (hb : PE X b (rdE (tb X c) W δ')) : PE X (.IfExp e a b pos) (rdE (tb X c) W (dIf t δ δ')) := by
  refine PE.imp (pe_ifExp he ha hb) fun σ H Q h => ?_
  obtain ⟨Z, ρ, μ, g, s, h1⟩ := rd_then (R := EqB) (f := fun ρ b μ1 => if b = true then δ ρ μ1 else δ' ρ μ1) h
  refine ⟨Z, ρ, μ, g, s, post_mono h1 fun x H1 ⟨Z1, ρ1, dx, μ1, g1, s1, rx, q1⟩ => ?_⟩
  have rx' : dx = x := rx
  subst rx'
  cases dx with
  | true => exact ⟨Z1, ρ1, μ1, g1, s1, q1⟩
  | false => exact ⟨Z1, ρ1, μ1, g1, s1, q1⟩
end
end DL

set_option Elab.async false
set_option linter.all false
set_option autoImplicit false
set_option maxRecDepth 100000
/-! DL, part e: what a def makes of data; its calls. No repr runs around it (guards). -/
namespace DL
open PySem L2

abbrev Mir := List D → Store → Res D
/-- a def keeps the promise sp, where no repr is running -/
structure GnOk (P : Program) (w : World) (K : PySem.W.Frag) (mg : Str → Option Value) (base : Heap) (k : Nat) (f : Addr) (fd : FuncData) (ps : List Str) (sp : Sp) : Prop where
  len : ∀ vs H Q E, sp vs H Q E → vs.length = ps.length
  run : ∀ (A : Around) (outer : List PySem.Env) (s : Shared) (H : Hp) (args : Args) (us : List Value) (vs : List V) (Q : VK) (E : XK), Room k A → A.guards = some [] → Env0 P w K mg base A outer s H →
    BindsTo s fd args (ps.zip us) → Vals vs us → sp vs H Q E → codeAny (model P w) A (.call (.ref f) args) (CR (L2.CX P w) outer P w H s Q E) s
theorem GnOk.mono {P : Program} {w : World} {K : PySem.W.Frag} {mg : Str → Option Value} {base : Heap} {j k : Nat} {f : Addr} {fd : FuncData} {ps : List Str} {sp : Sp} (F : GnOk P w K mg base j f fd ps sp) (h : j ≤ k) : GnOk P w K mg base k f fd ps sp :=
  ⟨F.len, fun A outer s H args us vs Q E hr => F.run A outer s H args us vs Q E (hr.mono h)⟩

/-- the promise: what m makes of the data -/
def spM (T : Tab) (n : Nat) (m : Mir) : Sp := fun vs H Q E => vs.length = n ∧ ∃ Z ds μ, Good T Z H μ ∧ Reps T Z ds vs ∧ post T (Rep T) (fun cls d _ H' => E cls d H') Z H [] (m ds μ) Q
theorem post_w {α β : Type} {T : Tab} {R : Wd → α → β → Prop} {W W' : WX} {Z : Wd} {H : Hp} {σ σ' : St} {r : Res α} {Q : β → Hp → Prop} (h : post T R W Z H σ r Q) (hw : ∀ cls d H, W cls d σ H → W' cls d σ' H) : post T R W' Z H σ' r Q := by
  cases r with
  | ok d μ => exact h
  | exc C fs μ => exact fun Z' H' dx l g e => hw _ _ _ (h Z' H' dx l g e)
  | bad => exact h

section
variable {X : Cx} {c : Nat → Addr} {W : WX} {pins : List (Addr × Obj)} {σ : St} {H : Hp} {s : Shared} {k n : Nat} {f : Addr} {fd : FuncData} {ps : List Str} {m : Mir} {sp : Sp}
/-- a call's end, seen from its caller -/
theorem end_of {Q : VK} {E : XK} {r : Result} {s' : Shared} (tk : Takes X W) (hW : ∀ cls d H', E cls d H' → W cls d σ H') (I : Inv X pins σ H s) (h : CR (L2.CX X.prog X.w) X.stack X.prog X.w H s Q E r s') :
    match r with
    | .ok (.ret u) => EP X pins σ Q u s'
    | .ok _ => False
    | .error e => X.xe e s' := by
  cases r with
  | error e => exact tk e s' (XE.of_call I hW h)
  | ok fl =>
    cases fl with
    | ret u => exact I.after h
    | next => exact h
    | brk => exact h
    | cont => exact h
theorem run_gn {args : Args} {us : List Value} {vs : List V} {Q : VK} (F : GnOk X.prog X.w X.K X.mg X.base k f fd ps sp) (hr : Room k X.A) (hG : X.A.guards = some []) (tk : Takes X W) (I : Inv X pins σ H s) (hb : BindsTo s fd args (ps.zip us)) (r : Vals vs us)
    (h : sp vs H Q (WE W σ)) : wpAny (model X.prog X.w) X.A (call (.ref f) args.pos args.kw) (EP X pins σ Q) X.xe s := by
  obtain ⟨pa, kw⟩ := args
  refine wpAny_call (codeAny_mono (F.run X.A X.stack s H ⟨pa, kw⟩ us vs Q (WE W σ) hr hG I.env0 hb r h) fun r s' hq => ?_)
  have z := end_of tk (fun _ _ _ q => q) I hq
  cases r with
  | error e => exact z
  | ok fl =>
    cases fl with
    | ret u => exact z
    | next => exact False.elim z
    | brk => exact False.elim z
    | cont => exact False.elim z
end
def dCall (m : Mir) (δs : DenA) : DenE := fun ρ μ => (δs ρ μ).bind m
end DL

set_option Elab.async false
set_option linter.all false
set_option autoImplicit false
set_option maxRecDepth 100000
/-! DL, part f: statements. -/
namespace DL
open PySem L2

inductive Out where
  | nx (ρ : Env) (μ : Store)
  | rt (d : D) (μ : Store)
  | bk (ρ : Env) (μ : Store)
  | ct (ρ : Env) (μ : Store)
  | exc (C : Nat) (fs : List (Str × D)) (ρ : Env) (μ : Store)
  | bad
def postS (T : Tab) (W : WX) (Z : Wd) (H : Hp) (E : Ends) (o : Out) : Prop := match o with
  | .nx ρ μ => ∀ Z' H' σ, Step Z H Z' H' → Good T Z' H' μ → Slots T Z' ρ σ → E.nx σ H'
  | .rt d μ => ∀ Z' H' v, Step Z H Z' H' → Good T Z' H' μ → Rep T Z' d v → E.rt v H'
  | .bk ρ μ => ∀ Z' H' σ, Step Z H Z' H' → Good T Z' H' μ → Slots T Z' ρ σ → E.bk σ H'
  | .ct ρ μ => ∀ Z' H' σ, Step Z H Z' H' → Good T Z' H' μ → Slots T Z' ρ σ → E.ct σ H'
  | .exc C fs ρ μ => ∀ Z' H' σ dx, Step Z H Z' H' → Good T Z' H' μ → Slots T Z' ρ σ → ExcAt T Z' H' fs dx → W (.ref (T.cl C)) dx σ H'
  | .bad => False
theorem postS_st {T : Tab} {W : WX} {Z Z' : Wd} {H H' : Hp} {E : Ends} {o : Out} (l : Step Z H Z' H') (h : postS T W Z H E o) : postS T W Z' H' E o := by
  cases o with
  | nx ρ μ => exact fun Z2 H2 v l2 => h Z2 H2 v (l.trans l2)
  | rt d μ => exact fun Z2 H2 v l2 => h Z2 H2 v (l.trans l2)
  | bk ρ μ => exact fun Z2 H2 v l2 => h Z2 H2 v (l.trans l2)
  | ct ρ μ => exact fun Z2 H2 v l2 => h Z2 H2 v (l.trans l2)
  | exc C fs ρ μ => exact fun Z2 H2 v dx l2 => h Z2 H2 v dx (l.trans l2)
  | bad => exact h
abbrev DenS := Env → Store → Out
def rdS (T : Tab) (W : WX) (δ : DenS) : TS := fun E σ H => ∃ Z ρ μ, Good T Z H μ ∧ Slots T Z ρ σ ∧ postS T W Z H E (δ ρ μ)
/-- an expression's result, then a statement's end -/
def bindS {α : Type} (r : Res α) (ρ : Env) (f : α → Store → Out) : Out := match r with
  | .ok a μ => f a μ
  | .exc C fs μ => .exc C fs ρ μ
  | .bad => .bad
theorem post_bindS {α β : Type} {T : Tab} {R : Wd → α → β → Prop} {W : WX} {Z : Wd} {H : Hp} {E : Ends} {ρ : Env} {σ : St} {r : Res α} {f : α → Store → Out} (sl : Slots T Z ρ σ) (h : postS T W Z H E (bindS r ρ f)) :
    post T R W Z H σ r (fun v H' => ∃ Z' d μ, Step Z H Z' H' ∧ Good T Z' H' μ ∧ Slots T Z' ρ σ ∧ R Z' d v ∧ postS T W Z' H' E (f d μ)) := by
  cases r with
  | ok d μ => exact fun Z2 H2 v l g q => ⟨Z2, d, μ, l, g, sl.mono l.le, q, postS_st l h⟩
  | exc C fs μ => exact fun Z2 H2 dx l g e => h Z2 H2 σ dx l g (sl.mono l.le) e
  | bad => exact h

/-! ### targets -/
abbrev DenG := D → Env → Store → Res Env
def SlotsR (T : Tab) (Z : Wd) (ρ : Env) (σ : St) : Prop := Slots T Z ρ σ
def rdTg (T : Tab) (γ : DenG) : TG := fun v σ H Q => ∃ Z ρ μ d, Good T Z H μ ∧ Slots T Z ρ σ ∧ Rep T Z d v ∧ post T (Slots T) (fun _ _ _ _ => False) Z H [] (γ d ρ μ) (fun σ' H' => Q σ' H')
def gSet (i : Nat) : DenG := fun d ρ μ => .ok (ρ.set i (some d)) μ
theorem PG.imp {X : Cx} {e : Expr} {t t' : TG} (h : PG X e t) (i : ∀ v σ H Q, t' v σ H Q → t v σ H Q) : PG X e t' := ⟨fun pins s σ H v u Q I r w => h.run pins s σ H v u Q I r (i v σ H Q w)⟩
theorem PGs.imp {X : Cx} {e : List Expr} {t t' : TGs} (h : PGs X e t) (i : ∀ v σ H Q, t' v σ H Q → t v σ H Q) : PGs X e t' := ⟨fun pins s σ H v u Q I r w => h.run pins s σ H v u Q I r (i v σ H Q w)⟩
section
variable {X : Cx} {c : Nat → Addr} {W : WX} {pos : Pos}
theorem dg_name {i : Nat} {x : Str} (hN : X.N.Nodup) (hi : X.N[i]? = some x) (hx : Loc X.env.scope x) (hf : X.fn x = true ∨ X.env.scope.names.lookup x = some .local) : PG X (.Name x pos) (rdTg (tb X c) (gSet i)) :=
  PG.imp (pg_name hN hi hx hf) fun v σ H Q ⟨Z, ρ, μ, d, g, s, r, h⟩ => h Z H _ Step.rfl g (s.set r i)
/-- several targets -/
abbrev DenGs := List D → Env → Store → Res Env
def rdTgs (T : Tab) (γ : DenGs) : TGs := fun vs σ H Q => ∃ Z ρ μ ds, Good T Z H μ ∧ Slots T Z ρ σ ∧ Reps T Z ds vs ∧ post T (Slots T) (fun _ _ _ _ => False) Z H [] (γ ds ρ μ) (fun σ' H' => Q σ' H')
def gsNil : DenGs := fun ds ρ μ => match ds with
  | [] => .ok ρ μ
  | _ => .bad
def gsCons (γ : DenG) (γs : DenGs) : DenGs := fun ds ρ μ => match ds with
  | d :: r => (γ d ρ μ).bind fun ρ1 μ1 => γs r ρ1 μ1
  | _ => .bad
theorem dgs_nil : PGs X [] (rdTgs (tb X c) gsNil) := by
  refine PGs.imp pgs_nil fun vs σ H Q ⟨Z, ρ, μ, ds, g, s, r, h⟩ => ?_
  cases r with
  | nil => exact ⟨rfl, h Z H σ Step.rfl g s⟩
  | cons _ _ => exact False.elim h
theorem each_cons {e : Expr} (h : notStar e = true) (es : List Expr) (env : PySem.Env) : assignEach (e :: es) env = (false, assign e env) :: assignEach es env := by
  cases e <;> first | rfl | cases h
theorem dgs_cons {e : Expr} {es : List Expr} {γ : DenG} {γs : DenGs} (hs : notStar e = true) (h1 : PG X e (rdTg (tb X c) γ)) (h2 : PGs X es (rdTgs (tb X c) γs)) : PGs X (e :: es) (rdTgs (tb X c) (gsCons γ γs)) := by
  refine PGs.imp (pgs_cons h1 h2 (by rw [each_cons hs]; rfl)) fun vs σ H Q ⟨Z, ρ, μ, ds, g, s, r, h⟩ => ?_
  cases r with
  | nil => exact False.elim h
  | cons r1 r2 =>
    refine ⟨_, _, rfl, Z, ρ, μ, _, g, s, r1, post_mono (post_bind (R := Slots (tb X c)) h) fun σ1 H1 ⟨Z1, ρ1, μ1, l1, g1, s1, q1⟩ => ?_⟩
    exact ⟨Z1, ρ1, μ1, _, g1, s1, r2.mono l1.le, q1⟩
/-- (a, b, ..) = a tuple -/
def gTupD (n : Nat) (γs : DenGs) : DenG := fun d ρ μ => match d with
  | .tup ds => if ds.length = n then γs ds ρ μ else .bad
  | _ => .bad
theorem each_len {env : PySem.Env} : ∀ {es : List Expr}, es.all notStar = true → (assignEach es env).length = es.length ∧ (assignEach es env).findIdx? (·.1) = none
  | [], _ => ⟨rfl, rfl⟩
  | e :: es, h => by
    rw [List.all_cons] at h
    obtain ⟨h1, h2⟩ := Bool.and_eq_true_iff.mp h
    rw [each_cons h1]
    obtain ⟨i1, i2⟩ := each_len (env := env) h2
    refine ⟨by rw [List.length_cons, List.length_cons, i1], ?_⟩
    rw [List.findIdx?_cons, i2]
    rfl
theorem dg_tup {es : List Expr} {k : Nat} {γs : DenGs} (hc : X.calm = true) (hs : es.all notStar = true) (h : PGs X es (rdTgs (tb X c) γs)) : PG X (.Tuple es k pos) (rdTg (tb X c) (gTupD es.length γs)) := by
  obtain ⟨i1, i2⟩ := each_len (env := X.env) hs
  refine PG.imp (pg_tup hc h i1 i2) fun v σ H Q ⟨Z, ρ, μ, d, g, s, r, h⟩ => ?_
  cases r with
  | @tup a vs ds hq r =>
    simp only [gTupD] at h
    by_cases hl : ds.length = es.length
    · rw [if_pos hl] at h
      exact ⟨a, vs, rfl, Same.sqt g.sub hq, by rw [← r.length]; exact hl, Z, ρ, μ, ds, g, s, r, h⟩
    · rw [if_neg hl] at h
      exact False.elim h
  | _ => exact False.elim h
/-- xs[i] = v, xs a list of the store -/
def setD (x y v : D) (μ : Store) : Option Store := match x, y with
  | .loc n, .int i => match asL μ (.loc n) with
    | some xs => (ixN xs.length i).map fun j => μ.set n (some (.lst (xs.set j v)))
    | none => none
  | _, _ => none
def gSubD (δo δi : DenE) : DenG := fun d ρ μ => (δo ρ μ).bind fun x μ1 => (δi ρ μ1).bind fun y μ2 => match setD x y d μ2 with
  | some μ3 => .ok ρ μ3
  | none => .bad
end
theorem nodup_at {l : List Addr} (h : l.Nodup) {i j : Nat} {a : Addr} (hi : l[i]? = some a) (hj : l[j]? = some a) : i = j := by
  obtain ⟨h1, e1⟩ := List.getElem?_eq_some_iff.mp hi
  obtain ⟨h2, e2⟩ := List.getElem?_eq_some_iff.mp hj
  exact (List.getElem_inj h).mp (e1.trans e2.symm)
theorem good_write {T : Tab} {Z : Wd} {H : Hp} {μ : Store} (g : Good T Z H μ) {n : Nat} {a : Addr} {m m0 : MO} {o : HO} (hn : Z.f[n]? = some a) (hm : μ[n]? = some (some m0)) (r : RepM T Z m o) : Good T Z (upd H a o) (μ.set n (some m)) := by
  have hg := (g.obj n a m0 hn hm).1
  refine ⟨fun b u e => ?_, by rw [List.length_set]; exact g.len, g.inj, fun b hb z => ?_, fun k b m' e1 e2 => ?_⟩
  · rw [upd_ne (ne_of_none e hg)]
    exact g.sub b u e
  · by_cases hba : b = a
    · rw [hba, upd_same] at z
      cases z
    · rw [upd_ne hba] at z
      exact g.there b hb z
  · by_cases hk : n = k
    · subst hk
      have ea : a = b := Option.some.inj (hn.symm.trans e1)
      subst ea
      rw [List.getElem?_set_self (by rw [← g.len]; exact (List.getElem?_eq_some_iff.mp hn).1)] at e2
      cases e2
      exact ⟨hg, o, upd_same, r⟩
    · rw [List.getElem?_set_ne hk] at e2
      obtain ⟨h0, u, h1, h2⟩ := g.obj k b m' e1 e2
      have nb : b ≠ a := fun z => by
        subst z
        exact hk (nodup_at g.inj hn e1)
      exact ⟨h0, u, by rw [upd_ne nb]; exact h1, h2⟩
theorem Step.write {Z : Wd} {H : Hp} {n : Nat} {a : Addr} {o : HO} (hn : Z.f[n]? = some a) : Step Z H Z (upd H a o) := ⟨Le.refl Z, fun b u e nm => ⟨by
  have nb : b ≠ a := fun z => nm (z ▸ List.mem_of_getElem? hn)
  rw [upd_ne nb]
  exact e, nm, fun q => q⟩⟩
section
variable {X : Cx} {c : Nat → Addr} {W : WX} {pos : Pos}
theorem dg_sub {o i : Expr} {δo δi : DenE} (ho : PE X o (rdE (tb X c) (fun _ _ _ _ => False) δo)) (hi : PE X i (rdE (tb X c) (fun _ _ _ _ => False) δi)) (hns : notSlice i = true) : PG X (.Subscript o i pos) (rdTg (tb X c) (gSubD δo δi)) := by
  refine PG.imp (pg_sub ho hi set_list (fun v => by cases i <;> first | rfl | cases hns)) fun v σ H Q ⟨Z, ρ, μ, d, g, s, r, h⟩ => ?_
  have h0 : post (tb X c) (Rep (tb X c)) (fun _ _ _ _ => False) Z H σ (δo ρ μ) _ := post_w (post_bind (R := Rep (tb X c)) h) fun _ _ _ z => z
  refine ⟨Z, ρ, μ, g, s, post_mono h0 fun x H1 ⟨Z1, dx, μ1, l1, g1, r1, q1⟩ => ?_⟩
  have h1 : post (tb X c) (Rep (tb X c)) (fun _ _ _ _ => False) Z1 H1 σ (δi ρ μ1) _ := post_w (post_bind (R := Rep (tb X c)) q1) fun _ _ _ z => z
  refine ⟨Z1, ρ, μ1, g1, s.mono l1.le, post_mono h1 fun y H2 ⟨Z2, dy, μ2, l2, g2, r2, q2⟩ => ?_⟩
  have rx := r1.mono l2.le
  cases rx with
  | @loc n a hn =>
    cases r2 with
    | int k =>
      simp only [setD] at q2
      cases w : asL μ2 (.loc n) with
      | none =>
        simp only [w] at q2
        exact False.elim q2
      | some xs =>
        simp only [w] at q2
        cases w2 : ixN xs.length k with
        | none =>
          simp only [w2] at q2
          exact False.elim q2
        | some j =>
          simp only [w2] at q2
          obtain ⟨vs, e1, e2⟩ := loc_list g2 hn (asL_loc w)
          have rv := (r.mono l1.le).mono l2.le
          have sl := (s.mono l1.le).mono l2.le
          exact ⟨a, vs, k, j, rfl, rfl, e1, by rw [← e2.length]; exact w2, q2 Z2 _ σ (Step.write hn) (good_write g2 hn (asL_loc w) (.lst (e2.set rv j))) sl⟩
    | _ => exact False.elim q2
  | _ =>
    cases r2 <;> exact False.elim q2
end
end DL

set_option Elab.async false
set_option linter.all false
set_option autoImplicit false
set_option maxRecDepth 100000
/-! DL, part g: statements, loops, the rule for a def. -/
namespace DL
open PySem L2

def sNext : DenS := fun ρ μ => .nx ρ μ
def sSeq (a b : DenS) : DenS := fun ρ μ => match a ρ μ with
  | .nx ρ1 μ1 => b ρ1 μ1
  | o => o
def sAsg (δ : DenE) (γ : DenG) : DenS := fun ρ μ => bindS (δ ρ μ) ρ fun d μ1 => match γ d ρ μ1 with
  | .ok ρ1 μ2 => .nx ρ1 μ2
  | _ => .bad
def sSet (i : Nat) (δ : DenE) : DenS := fun ρ μ => bindS (δ ρ μ) ρ fun d μ1 => .nx (ρ.set i (some d)) μ1
def sDrop (δ : DenE) : DenS := fun ρ μ => bindS (δ ρ μ) ρ fun _ μ1 => .nx ρ μ1
def sRet (δ : DenE) : DenS := fun ρ μ => bindS (δ ρ μ) ρ fun d μ1 => .rt d μ1
def sRetN : DenS := fun _ μ => .rt .non μ
def sIf (t : DenT) (a b : DenS) : DenS := fun ρ μ => bindS (t ρ μ) ρ fun k μ1 => if k = true then a ρ μ1 else b ρ μ1
def sPar2 (i j : Nat) (δs : DenA) : DenS := fun ρ μ => bindS (δs ρ μ) ρ fun ds μ1 => match ds with
  | [x, y] => .nx ((ρ.set i (some x)).set j (some y)) μ1
  | _ => .bad
def sPar3 (i j l : Nat) (δs : DenA) : DenS := fun ρ μ => bindS (δs ρ μ) ρ fun ds μ1 => match ds with
  | [x, y, z] => .nx (((ρ.set i (some x)).set j (some y)).set l (some z)) μ1
  | _ => .bad
section
variable {X : Cx} {c : Nat → Addr} {W : WX} {pos : Pos} {st : Stmt} {rest : List Stmt} {a b : DenS} {e : Expr} {δ : DenE} {γ : DenG} {δs : DenA}
theorem dss_nil : PSs X [] (rdS (tb X c) W sNext) := PSs.imp pss_nil fun E σ H ⟨Z, ρ, μ, g, s, h⟩ => h Z H σ Step.rfl g s
theorem ds_pass : PS X (.Pass pos) (rdS (tb X c) W sNext) := PS.imp ps_pass fun E σ H ⟨Z, ρ, μ, g, s, h⟩ => h Z H σ Step.rfl g s
theorem ds_break : PS X (.Break pos) (rdS (tb X c) W fun ρ μ => .bk ρ μ) := PS.imp ps_break fun E σ H ⟨Z, ρ, μ, g, s, h⟩ => h Z H σ Step.rfl g s
theorem ds_cont : PS X (.Continue pos) (rdS (tb X c) W fun ρ μ => .ct ρ μ) := PS.imp ps_continue fun E σ H ⟨Z, ρ, μ, g, s, h⟩ => h Z H σ Step.rfl g s
theorem postS_seq {T : Tab} {Z : Wd} {H : Hp} {E : Ends} {o : Out} {b : DenS} (h : postS T W Z H E (match o with | .nx ρ1 μ1 => b ρ1 μ1 | o => o)) : postS T W Z H { E with nx := rdS T W b E } o := by
  cases o with
  | nx ρ μ => exact fun Z' H' σ l g s => ⟨Z', ρ, μ, g, s, postS_st l h⟩
  | rt d μ => exact h
  | bk ρ μ => exact h
  | ct ρ μ => exact h
  | exc C fs ρ μ => exact h
  | bad => exact h
theorem dss_cons (h1 : PS X st (rdS (tb X c) W a)) (h2 : PSs X rest (rdS (tb X c) W b)) : PSs X (st :: rest) (rdS (tb X c) W (sSeq a b)) :=
  PSs.imp (pss_cons h1 h2) fun E σ H ⟨Z, ρ, μ, g, s, h⟩ => ⟨Z, ρ, μ, g, s, postS_seq h⟩
theorem dss_one (h1 : PS X st (rdS (tb X c) W a)) : PSs X [st] (rdS (tb X c) W a) := pss_one h1
theorem ds_drop (hn : notComp e = true) (h : PE X e (rdE (tb X c) W δ)) : PS X (.Expr e pos) (rdS (tb X c) W (sDrop δ)) := by
  refine PS.imp (ps_expr h (swaps_of hn _ _ _)) fun E σ H ⟨Z, ρ, μ, g, s, q⟩ => ?_
  refine ⟨Z, ρ, μ, g, s, post_mono (post_bindS (R := Rep (tb X c)) s q) fun v H1 ⟨Z1, d, μ1, l, g1, s1, r, q1⟩ => ?_⟩
  exact q1 Z1 H1 σ Step.rfl g1 s1
theorem ds_ret (h : PE X e (rdE (tb X c) W δ)) : PS X (.Return (some e) pos) (rdS (tb X c) W (sRet δ)) := by
  refine PS.imp (ps_ret h) fun E σ H ⟨Z, ρ, μ, g, s, q⟩ => ?_
  refine ⟨Z, ρ, μ, g, s, post_mono (post_bindS (R := Rep (tb X c)) s q) fun v H1 ⟨Z1, d, μ1, l, g1, s1, r, q1⟩ => ?_⟩
  exact q1 Z1 H1 v Step.rfl g1 r
theorem ds_retN : PS X (.Return none pos) (rdS (tb X c) W sRetN) := PS.imp ps_retN fun E σ H ⟨Z, ρ, μ, g, s, h⟩ => h Z H _ Step.rfl g .non
theorem ds_if {t : Expr} {τ : DenT} {as bs : List Stmt} (ht : PT X t (rdT (tb X c) W τ)) (ha : PSs X as (rdS (tb X c) W a)) (hb : PSs X bs (rdS (tb X c) W b)) : PS X (.If t as bs pos) (rdS (tb X c) W (sIf τ a b)) := by
  refine PS.imp (ps_if ht ha hb) fun E σ H ⟨Z, ρ, μ, g, s, q⟩ => ?_
  refine ⟨Z, ρ, μ, g, s, post_mono (post_bindS (R := EqB) s q) fun k H1 ⟨Z1, k1, μ1, l, g1, s1, r, q1⟩ => ?_⟩
  have r' : k1 = k := r
  subst r'
  cases k1 with
  | true => exact ⟨Z1, ρ, μ1, g1, s1, q1⟩
  | false => exact ⟨Z1, ρ, μ1, g1, s1, q1⟩
theorem ds_set {i : Nat} {x : Str} {p : Pos} (hN : X.N.Nodup) (hi : X.N[i]? = some x) (hx : Loc X.env.scope x) (hf : X.fn x = true ∨ X.env.scope.names.lookup x = some .local) (hn : notComp e = true) (h : PE X e (rdE (tb X c) W δ)) : PS X (.Assign [.Name x p] e pos) (rdS (tb X c) W (sSet i δ)) := by
  refine PS.imp (ps_set hN hi hx h (swaps_of hn _ _ _) hf) fun E σ H ⟨Z, ρ, μ, g, s, q⟩ => ?_
  refine ⟨Z, ρ, μ, g, s, post_mono (post_bindS (R := Rep (tb X c)) s q) fun v H1 ⟨Z1, d, μ1, l, g1, s1, r, q1⟩ => ?_⟩
  exact q1 Z1 H1 _ Step.rfl g1 (s1.set r i)
theorem post_no {T : Tab} {Z : Wd} {H : Hp} {E : Ends} {r : Res Env} (h : postS T W Z H E (match r with | .ok ρ1 μ2 => .nx ρ1 μ2 | _ => .bad)) : post T (Slots T) (fun _ _ _ _ => False) Z H [] r E.nx := by
  cases r with
  | ok ρ μ => exact fun Z' H' v l g s => h Z' H' v l g s
  | exc C fs μ => exact False.elim h
  | bad => exact h
theorem ds_asg {tg : Expr} (hn : notComp e = true) (hw : swappedStores [tg] e X.env = pure none) (h1 : (assignEach [tg] X.env).map (·.2) = [assign tg X.env]) (h : PE X e (rdE (tb X c) W δ)) (hg : PG X tg (rdTg (tb X c) γ)) : PS X (.Assign [tg] e pos) (rdS (tb X c) W (sAsg δ γ)) := by
  refine PS.imp (ps_asg h hg (swaps_of hn _ _ _) hw h1) fun E σ H ⟨Z, ρ, μ, g, s, q⟩ => ?_
  refine ⟨Z, ρ, μ, g, s, post_mono (post_bindS (R := Rep (tb X c)) s q) fun v H1 ⟨Z1, d, μ1, l, g1, s1, r, q1⟩ => ?_⟩
  exact ⟨Z1, ρ, μ1, d, g1, s1, r, post_no q1⟩
theorem ds_par2 {i j : Nat} {x y : Str} {u v : Expr} {px py pt pt2 : Pos} {kt k2 : Nat} (hc : X.calm = true) (hN : X.N.Nodup) (hi : X.N[i]? = some x) (hj : X.N[j]? = some y) (hij : i ≠ j) (hx : X.env.scope.names.lookup x = some .local) (hy : X.env.scope.names.lookup y = some .local)
    (ha : PA X [u, v] (rdA (tb X c) W δs)) (hw : swappedStores [.Tuple [.Name x px, .Name y py] kt pt] (.Tuple [u, v] k2 pt2) X.env = pure (some [x, y])) : PS X (.Assign [.Tuple [.Name x px, .Name y py] kt pt] (.Tuple [u, v] k2 pt2) pos) (rdS (tb X c) W (sPar2 i j δs)) := by
  refine PS.imp (ps_par hc hN hi hj hij hx hy ha hw) fun E σ H ⟨Z, ρ, μ, g, s, q⟩ => ?_
  refine ⟨Z, ρ, μ, g, s, post_mono (post_bindS (R := Reps (tb X c)) s q) fun vs H1 ⟨Z1, ds, μ1, l, g1, s1, r, q1⟩ => ?_⟩
  cases r with
  | nil => exact False.elim q1
  | cons r1 r2 =>
    cases r2 with
    | nil => exact False.elim q1
    | cons r2 r3 =>
      cases r3 with
      | nil => exact ⟨_, _, rfl, q1 Z1 H1 _ Step.rfl g1 ((s1.set r1 i).set r2 j)⟩
      | cons _ _ => exact False.elim q1
theorem ds_par3 {i j l : Nat} {x y z : Str} {u v w : Expr} {px py pz pt pt2 : Pos} {kt k2 : Nat} (hc : X.calm = true) (hN : X.N.Nodup) (hi : X.N[i]? = some x) (hj : X.N[j]? = some y) (hl : X.N[l]? = some z) (hij : i ≠ j) (hil : i ≠ l) (hjl : j ≠ l)
    (hx : X.env.scope.names.lookup x = some .local) (hy : X.env.scope.names.lookup y = some .local) (hz : X.env.scope.names.lookup z = some .local) (ha : PA X [u, v, w] (rdA (tb X c) W δs))
    (hw : swappedStores [.Tuple [.Name x px, .Name y py, .Name z pz] kt pt] (.Tuple [u, v, w] k2 pt2) X.env = pure (some [x, y, z])) : PS X (.Assign [.Tuple [.Name x px, .Name y py, .Name z pz] kt pt] (.Tuple [u, v, w] k2 pt2) pos) (rdS (tb X c) W (sPar3 i j l δs)) := by
  refine PS.imp (ps_par3 hc hN hi hj hl hij hil hjl hx hy hz ha hw) fun E σ H ⟨Z, ρ, μ, g, s, q⟩ => ?_
  refine ⟨Z, ρ, μ, g, s, post_mono (post_bindS (R := Reps (tb X c)) s q) fun vs H1 ⟨Z1, ds, μ1, l1, g1, s1, r, q1⟩ => ?_⟩
  cases r with
  | nil => exact False.elim q1
  | cons r1 r2 =>
    cases r2 with
    | nil => exact False.elim q1
    | cons r2 r3 =>
      cases r3 with
      | nil => exact False.elim q1
      | cons r3 r4 =>
        cases r4 with
        | nil => exact ⟨_, _, _, rfl, q1 Z1 H1 _ Step.rfl g1 (((s1.set r1 i).set r2 j).set r3 l)⟩
        | cons _ _ => exact False.elim q1
end

/-! ### what a loop walks -/
def RI (T : Tab) (Z : Wd) (items : List D) (J : It) : Prop := ∀ Z' H μ i, Le Z Z' → Good T Z' H μ →
  (i < items.length → J.go i H ∧ ∀ x H', J.yld i H x H' → ∃ Z2 d, Step Z' H Z2 H' ∧ Good T Z2 H' μ ∧ items[i]? = some d ∧ Rep T Z2 d x) ∧ (items.length ≤ i → J.stop i H)
abbrev DenI := Env → Store → Res (List D)
abbrev rdI (T : Tab) (W : WX) (δ : DenI) : TI := rdG T (RI T) W δ
theorem PI.imp {X : Cx} {tg e : Expr} {t t' : TI} (h : PI X tg e t) (i : ∀ σ H Q, t' σ H Q → t σ H Q) : PI X tg e t' := ⟨fun pins s σ H Q I w => h.run pins s σ H Q I (i σ H Q w)⟩
theorem PI.or {X : Cx} {tg e : Expr} {t t' : TI} (h : PI X tg e t) (h' : PI X tg e t') : PI X tg e (fun σ H Q => t σ H Q ∨ t' σ H Q) := ⟨fun pins s σ H Q I w => w.elim (h.run pins s σ H Q I) (h'.run pins s σ H Q I)⟩
/-- a list or tuple that stays -/
def fixS : D → Option (List D)
  | .lst xs => some xs
  | .scr xs => some xs
  | .tup xs => some xs
  | _ => none
def iSeq (δ : DenE) : DenI := fun ρ μ => (δ ρ μ).bind fun d μ1 => ofO (fixS d) μ1
def intsD (lo : Int) (n : Nat) : List D := (List.range n).map fun i => .int (lo + (i : Nat))
def iRng1 (δs : DenA) : DenI := fun ρ μ => (δs ρ μ).bind fun ds μ1 => match ds with
  | [.int j] => if -(2 ^ 62) ≤ j ∧ j < 2 ^ 62 then .ok (intsD 0 j.toNat) μ1 else .bad
  | _ => .bad
def iRng2 (δs : DenA) : DenI := fun ρ μ => (δs ρ μ).bind fun ds μ1 => match ds with
  | [.int i, .int j] => if -(2 ^ 62) ≤ i ∧ i < 2 ^ 62 ∧ -(2 ^ 62) ≤ j ∧ j < 2 ^ 62 then .ok (intsD i (j - i).toNat) μ1 else .bad
  | _ => .bad
theorem ri_l {T : Tab} {Z : Wd} {ds : List D} {a : Addr} {vs : List V} (h : SqL T.K Z.g a vs) (r : Reps T Z ds vs) : RI T Z ds (Itl T.K a) := fun Z' H μ i l g => by
  have q : SqL T.K H a vs := Same.seq g.sub (Same.seq l.g h)
  have rr := r.mono l
  refine ⟨fun hi => ?_, fun hi => ⟨vs, q, by rw [← r.length]; exact hi⟩⟩
  obtain ⟨y, hy, ry⟩ := rr.get (List.getElem?_eq_getElem hi)
  exact ⟨⟨vs, y, q, hy⟩, fun x H' ⟨e, w⟩ => by
    subst e
    have ex : x = y := Option.some.inj ((w vs q).symm.trans hy)
    subst ex
    exact ⟨Z', _, Step.rfl, g, List.getElem?_eq_getElem hi, ry⟩⟩
theorem ri_t {T : Tab} {Z : Wd} {ds : List D} {a : Addr} {vs : List V} (h : SqT T.K Z.g a vs) (r : Reps T Z ds vs) : RI T Z ds (Itt T.K a) := fun Z' H μ i l g => by
  have q : SqT T.K H a vs := Same.sqt g.sub (Same.sqt l.g h)
  have rr := r.mono l
  refine ⟨fun hi => ?_, fun hi => ⟨vs, q, by rw [← r.length]; exact hi⟩⟩
  obtain ⟨y, hy, ry⟩ := rr.get (List.getElem?_eq_getElem hi)
  exact ⟨⟨vs, y, q, hy⟩, fun x H' ⟨e, w⟩ => by
    subst e
    have ex : x = y := Option.some.inj ((w vs q).symm.trans hy)
    subst ex
    exact ⟨Z', _, Step.rfl, g, List.getElem?_eq_getElem hi, ry⟩⟩
theorem ri_r {T : Tab} {Z : Wd} {lo : Int} {n : Nat} : RI T Z (intsD lo n) (Itr lo n) := fun Z' H μ i l g => by
  have hl : (intsD lo n).length = n := by unfold intsD; rw [List.length_map, List.length_range]
  rw [hl]
  refine ⟨fun hi => ⟨hi, fun x H' ⟨e, w⟩ => ?_⟩, fun hi => hi⟩
  subst e
  subst w
  refine ⟨Z', .int (lo + i), Step.rfl, g, ?_, .int _⟩
  unfold intsD
  rw [List.getElem?_map, List.getElem?_range hi]
  rfl
section
variable {X : Cx} {c : Nat → Addr} {W : WX} {pos p : Pos} {tg e : Expr} {δ : DenE} {δs : DenA}
theorem di_seq (h : PE X e (rdE (tb X c) W δ)) : PI X tg e (rdI (tb X c) W (iSeq δ)) := by
  refine PI.imp (PI.or (pi_list h) (pi_tup h)) fun σ H Q ⟨Z, ρ, μ, g, s, q⟩ => ?_
  unfold iSeq at q
  cases e1 : δ ρ μ with
  | bad =>
    rw [e1] at q
    exact False.elim q
  | exc C fs μ1 =>
    rw [e1] at q
    refine .inl ⟨Z, ρ, μ, g, s, ?_⟩
    rw [e1]
    exact q
  | ok d μ1 =>
    rw [e1] at q
    have q' : post (tb X c) (RI (tb X c)) W Z H σ (ofO (fixS d) μ1) Q := q
    cases d with
    | lst xs =>
      refine .inl ⟨Z, ρ, μ, g, s, ?_⟩
      rw [e1]
      intro Z' H' v l g' r
      cases r with
      | lst h r => exact ⟨_, rfl, ⟨_, SqL.of (g'.sub _ _ h)⟩, q' Z' H' _ l g' (ri_l (SqL.of h) r)⟩
    | scr xs =>
      refine .inl ⟨Z, ρ, μ, g, s, ?_⟩
      rw [e1]
      intro Z' H' v l g' r
      cases r with
      | scr h r => exact ⟨_, rfl, ⟨_, Same.seq g'.sub h⟩, q' Z' H' _ l g' (ri_l h r)⟩
    | tup xs =>
      refine .inr ⟨Z, ρ, μ, g, s, ?_⟩
      rw [e1]
      intro Z' H' v l g' r
      cases r with
      | tup h r => exact ⟨_, rfl, ⟨_, Same.sqt g'.sub h⟩, q' Z' H' _ l g' (ri_t h r)⟩
    | _ => exact False.elim q'
theorem di_rng1 {a : Expr} (hg : Gl X "range") (hm : X.mg "range" = none) (hs : notStar a = true) (ha : PA X [a] (rdA (tb X c) W δs)) : PI X tg (.Call (.Name "range" p) [a] [] pos) (rdI (tb X c) W (iRng1 δs)) := by
  refine PI.imp (pi_range1 hg hm ha (star_cons hs [] X.env)) fun σ H Q h => ?_
  obtain ⟨Z, ρ, μ, g, s, h1⟩ := rd_then (R := Reps (tb X c)) (f := fun _ ds μ1 => (match ds with
    | [.int j] => if -(2 ^ 62) ≤ j ∧ j < 2 ^ 62 then .ok (intsD 0 j.toNat) μ1 else .bad
    | _ => .bad : Res (List D))) h
  refine ⟨Z, ρ, μ, g, s, post_mono h1 fun vs H1 ⟨Z1, ρ1, ds, μ1, g1, s1, r, q1⟩ => ?_⟩
  split at q1
  · rename_i j
    split at q1
    · rename_i hj
      cases r with
      | cons r1 r2 =>
        cases r2
        cases r1
        exact ⟨j, rfl, hj.1, hj.2, q1 Z1 H1 _ Step.rfl g1 ri_r⟩
    · exact False.elim q1
  · exact False.elim q1
theorem di_rng2 {a b : Expr} (hg : Gl X "range") (hm : X.mg "range" = none) (hs : notStar a = true) (hs2 : notStar b = true) (ha : PA X [a, b] (rdA (tb X c) W δs)) : PI X tg (.Call (.Name "range" p) [a, b] [] pos) (rdI (tb X c) W (iRng2 δs)) := by
  refine PI.imp (pi_range2 hg hm ha (by rw [star_cons hs, star_cons hs2]; rfl) (star_cons hs2 [] X.env)) fun σ H Q h => ?_
  obtain ⟨Z, ρ, μ, g, s, h1⟩ := rd_then (R := Reps (tb X c)) (f := fun _ ds μ1 => (match ds with
    | [.int i, .int j] => if -(2 ^ 62) ≤ i ∧ i < 2 ^ 62 ∧ -(2 ^ 62) ≤ j ∧ j < 2 ^ 62 then .ok (intsD i (j - i).toNat) μ1 else .bad
    | _ => .bad : Res (List D))) h
  refine ⟨Z, ρ, μ, g, s, post_mono h1 fun vs H1 ⟨Z1, ρ1, ds, μ1, g1, s1, r, q1⟩ => ?_⟩
  split at q1
  · rename_i i j
    split at q1
    · rename_i hj
      cases r with
      | cons r1 r2 =>
        cases r2 with
        | cons r2 r3 =>
          cases r3
          cases r1
          cases r2
          exact ⟨i, j, rfl, hj, q1 Z1 H1 _ Step.rfl g1 ri_r⟩
    · exact False.elim q1
  · exact False.elim q1
end

/-! ### for, while -/
def forL (γ : DenG) (body : DenS) : List D → Env → Store → Out
  | [], ρ, μ => .nx ρ μ
  | d :: ds, ρ, μ => match γ d ρ μ with
    | .ok ρ1 μ1 => match body ρ1 μ1 with
      | .nx ρ2 μ2 => forL γ body ds ρ2 μ2
      | .ct ρ2 μ2 => forL γ body ds ρ2 μ2
      | .bk ρ2 μ2 => .nx ρ2 μ2
      | .rt d μ2 => .rt d μ2
      | .exc C fs ρ2 μ2 => .exc C fs ρ2 μ2
      | .bad => .bad
    | _ => .bad
def sFor (it : DenI) (γ : DenG) (body : DenS) : DenS := fun ρ μ => bindS (it ρ μ) ρ fun items μ1 => forL γ body items ρ μ1
def whileL (t : DenT) (body : DenS) : Nat → Env → Store → Out
  | 0, _, _ => .bad
  | n + 1, ρ, μ => bindS (t ρ μ) ρ fun k μ1 => if k = true then (match body ρ μ1 with
      | .nx ρ2 μ2 => whileL t body n ρ2 μ2
      | .ct ρ2 μ2 => whileL t body n ρ2 μ2
      | .bk ρ2 μ2 => .nx ρ2 μ2
      | .rt d μ2 => .rt d μ2
      | .exc C fs ρ2 μ2 => .exc C fs ρ2 μ2
      | .bad => .bad) else .nx ρ μ1
def sWhile (fuel : Env → Store → Nat) (t : DenT) (body : DenS) : DenS := fun ρ μ => whileL t body (fuel ρ μ) ρ μ
section
variable {X : Cx} {c : Nat → Addr} {W : WX} {pos : Pos} {tg iter : Expr} {body : List Stmt} {it : DenI} {γ : DenG} {δ : DenS} {τ : DenT}
theorem ds_for (hp : PassesOwn (model X.prog X.w) X.A X.env X.xe) (hc : X.calm = true) (hi : PI X tg iter (rdI (tb X c) W it)) (hg : PG X tg (rdTg (tb X c) γ)) (hb : PSs X body (rdS (tb X c) W δ)) (hs : ∀ x, foldedSetIterable iter X.env x = pure x) :
    PS X (.For tg iter body [] pos) (rdS (tb X c) W (sFor it γ δ)) := by
  refine PS.imp (ps_for hp hc hi hg hb hs) fun E σ H ⟨Z, ρ, μ, g, s, q⟩ => ?_
  refine ⟨Z, ρ, μ, g, s, post_mono (post_bindS (R := RI (tb X c)) s q) fun J H1 ⟨Z1, items, μ1, l1, g1, s1, ri, q1⟩ => ?_⟩
  refine ⟨fun i m σ' H' => ∃ Z' ρ' μ', Le Z1 Z' ∧ Good (tb X c) Z' H' μ' ∧ Slots (tb X c) Z' ρ' σ' ∧ m = (items.drop i).length ∧ i ≤ items.length ∧ postS (tb X c) W Z' H' E (forL γ δ (items.drop i) ρ' μ'), ⟨_, Z1, ρ, μ1, Le.refl Z1, g1, s1, rfl, Nat.zero_le _, q1⟩, ?_⟩
  rintro i m σ' H' ⟨Z', ρ', μ', l, g', s', hm, hle, q'⟩
  obtain ⟨go, stop⟩ := ri Z' H' μ' i l g'
  by_cases hi' : i < items.length
  · obtain ⟨h1, h2⟩ := go hi'
    rw [List.drop_eq_getElem_cons hi'] at q' hm
    refine .inr ⟨h1, fun σ2 H2 => ∃ Z2 ρ2 μ2, Le Z1 Z2 ∧ Good (tb X c) Z2 H2 μ2 ∧ Slots (tb X c) Z2 ρ2 σ2 ∧ postS (tb X c) W Z2 H2 E (forL γ δ (items.drop (i + 1)) ρ2 μ2), fun σ2 H2 ⟨Z2, ρ2, μ2, l2, g2, s2, q2⟩ => ⟨_, ?_, Z2, ρ2, μ2, l2, g2, s2, rfl, hi', q2⟩, fun x H2 y => ?_⟩
    · rw [hm, List.length_cons]
      exact Nat.lt_succ_self _
    · obtain ⟨Z2, d, l2, g2, e2, r2⟩ := h2 x H2 y
      have e3 : items[i] = d := Option.some.inj ((List.getElem?_eq_getElem hi').symm.trans e2)
      rw [e3] at q'
      have q2 := postS_st l2 q'
      simp only [forL] at q2
      refine ⟨Z2, ρ', μ', d, g2, s'.mono l2.le, r2, ?_⟩
      cases eg : γ d ρ' μ' with
      | bad =>
        rw [eg] at q2
        exact False.elim q2
      | exc C fs μ3 =>
        rw [eg] at q2
        exact False.elim q2
      | ok ρ3 μ3 =>
        rw [eg] at q2
        intro Z3 H3 σ3 l3 g3 s3
        refine ⟨Z3, ρ3, μ3, g3, s3, ?_⟩
        have q3 := postS_st l3 q2
        have lz := (l.trans l2.le).trans l3.le
        dsimp only at q3
        cases eb : δ ρ3 μ3 with
        | nx ρ4 μ4 =>
          rw [eb] at q3
          exact fun Z4 H4 σ4 l4 g4 s4 => ⟨Z4, ρ4, μ4, lz.trans l4.le, g4, s4, postS_st l4 q3⟩
        | ct ρ4 μ4 =>
          rw [eb] at q3
          exact fun Z4 H4 σ4 l4 g4 s4 => ⟨Z4, ρ4, μ4, lz.trans l4.le, g4, s4, postS_st l4 q3⟩
        | bk ρ4 μ4 =>
          rw [eb] at q3
          exact q3
        | rt d4 μ4 =>
          rw [eb] at q3
          exact q3
        | exc C fs ρ4 μ4 =>
          rw [eb] at q3
          exact q3
        | bad =>
          rw [eb] at q3
          exact q3
  · rw [List.drop_eq_nil_of_le (by omega)] at q'
    exact .inl ⟨stop (by omega), q' Z' H' σ' Step.rfl g' s'⟩
theorem ds_while {t : Expr} (fuel : Env → Store → Nat) (hp : PassesOwn (model X.prog X.w) X.A X.env X.xe) (ht : PT X t (rdT (tb X c) W τ)) (hb : PSs X body (rdS (tb X c) W δ)) : PS X (.While t body [] pos) (rdS (tb X c) W (sWhile fuel τ δ)) := by
  refine PS.imp (ps_while hp ht hb) fun E σ H ⟨Z, ρ, μ, g, s, q⟩ => ?_
  refine ⟨fun m σ' H' => ∃ Z' ρ' μ', Good (tb X c) Z' H' μ' ∧ Slots (tb X c) Z' ρ' σ' ∧ postS (tb X c) W Z' H' E (whileL τ δ m ρ' μ'), ⟨fuel ρ μ, Z, ρ, μ, g, s, q⟩, ?_⟩
  rintro m σ' H' ⟨Z', ρ', μ', g', s', q'⟩
  cases m with
  | zero => exact False.elim q'
  | succ m =>
    simp only [whileL] at q'
    refine ⟨Z', ρ', μ', g', s', post_mono (post_bindS (R := EqB) s' q') fun k H1 ⟨Z1, k1, μ1, l1, g1, s1, r1, q1⟩ => ?_⟩
    have r' : k1 = k := r1
    subst r'
    cases k1 with
    | false => exact q1 Z1 H1 _ Step.rfl g1 s1
    | true =>
      refine ⟨fun σ2 H2 => ∃ Z2 ρ2 μ2, Good (tb X c) Z2 H2 μ2 ∧ Slots (tb X c) Z2 ρ2 σ2 ∧ postS (tb X c) W Z2 H2 E (whileL τ δ m ρ2 μ2), fun σ2 H2 h => ⟨m, Nat.lt_succ_self _, h⟩, Z1, ρ', μ1, g1, s1, ?_⟩
      rw [if_pos rfl] at q1
      cases eb : δ ρ' μ1 with
      | nx ρ4 μ4 =>
        rw [eb] at q1
        exact fun Z4 H4 σ4 l4 g4 s4 => ⟨Z4, ρ4, μ4, g4, s4, postS_st l4 q1⟩
      | ct ρ4 μ4 =>
        rw [eb] at q1
        exact fun Z4 H4 σ4 l4 g4 s4 => ⟨Z4, ρ4, μ4, g4, s4, postS_st l4 q1⟩
      | bk ρ4 μ4 =>
        rw [eb] at q1
        exact q1
      | rt d4 μ4 =>
        rw [eb] at q1
        exact q1
      | exc C fs ρ4 μ4 =>
        rw [eb] at q1
        exact q1
      | bad =>
        rw [eb] at q1
        exact q1
end
end DL

set_option Elab.async false
set_option linter.all false
set_option autoImplicit false
set_option maxRecDepth 100000
/-! DL, part h: the rule for a def; its calls. -/
namespace DL
open PySem L2

def startD (n : Nat) (ds : List D) : Env := ds.map some ++ List.replicate (n - ds.length) none
def runBody (n : Nat) (body : DenS) : Mir := fun ds μ => match body (startD n ds) μ with
  | .nx _ μ1 => .ok .non μ1
  | .rt d μ1 => .ok d μ1
  | .exc C fs _ μ1 => .exc C fs μ1
  | _ => .bad
theorem slots_start {T : Tab} {Z : Wd} {N : List Str} {ds : List D} {vs : List V} (r : Reps T Z ds vs) : Slots T Z (startD N.length ds) (L2.start N vs) := by
  unfold startD L2.start
  have hl := r.length
  refine ⟨by simp [hl], fun i d e => ?_⟩
  by_cases hi : i < ds.length
  · rw [List.getElem?_append_left (by rw [List.length_map]; exact hi), List.getElem?_map] at e
    cases q : ds[i]? with
    | none => rw [q] at e; cases e
    | some d' =>
      rw [q] at e
      have e' : d' = d := Option.some.inj (Option.some.inj e)
      subst e'
      obtain ⟨y, h1, h2⟩ := r.get q
      refine ⟨y, ?_, h2⟩
      rw [List.getElem?_append_left (by rw [List.length_map, ← hl]; exact hi), List.getElem?_map, h1]
      rfl
  · rw [List.getElem?_append_right (by rw [List.length_map]; omega), List.getElem?_replicate] at e
    split at e <;> cases e
/-- THE RULE for a def: its body's rows as a DenS -/
theorem fn_d2 {P : Program} {w : World} {K : PySem.W.Frag} {mg : Str → Option Value} {base : Heap} {cl : Nat → Addr} {k : Nat} {f : Addr} {name qual : Str} {params : Arguments} {body : List Stmt} {scope : Scope} {dV kV doc pm cdv ct oc : Value} {an od : Option Addr}
    {osl : Array (Option Value)} {N ps : List Str} {δ : DenS} (lk : K.lookup f = some ⟨oc, od, .func (PySem.W.fnOf name qual params body scope dV kV doc pm an cdv ct), osl⟩) (hcd : PySem.W.codeIn K cdv qual = true) (S : FnScope N ps scope)
    (hbody : ∀ (A : Around) (outer : List PySem.Env) (s : Shared) (H : Hp) (E : XK), Room k (cxOf (L2.CX P w) P w K mg base N qual scope f cdv A outer s H E).A → (cxOf (L2.CX P w) P w K mg base N qual scope f cdv A outer s H E).A.guards = some [] →
      Takes (cxOf (L2.CX P w) P w K mg base N qual scope f cdv A outer s H E) (fun cls d _ H' => E cls d H') → PassesOwn (model P w) (cxOf (L2.CX P w) P w K mg base N qual scope f cdv A outer s H E).A (cxOf (L2.CX P w) P w K mg base N qual scope f cdv A outer s H E).env (cxOf (L2.CX P w) P w K mg base N qual scope f cdv A outer s H E).xe →
      PSs (cxOf (L2.CX P w) P w K mg base N qual scope f cdv A outer s H E) body (rdS ⟨K, cl⟩ (fun cls d _ H' => E cls d H') δ)) :
    GnOk P w K mg base (k + 1) f (PySem.W.fnOf name qual params body scope dV kV doc pm an cdv ct) ps (spM ⟨K, cl⟩ ps.length (runBody N.length δ)) := by
  refine ⟨fun vs H Q E h => h.1, fun A outer s H args us vs Q E hr hG e0 hb r hsp => ?_⟩
  obtain ⟨hl, Z, ds, μ, g, rd, hp⟩ := hsp
  have KX : K.In s.heap := e0.mod.kin.keeps fun b o e => (e0.bs b o e).1
  have lim : s.heap.NoLimit := e0.mod.nolimit.keeps fun b o e => (e0.bs b o e).1
  have hkind : ∀ y ∈ ps.zip us, scope.names.lookup y.1 = some .local ∨ (scope.names.lookup y.1 = some .cell ∧ ((cellsFrom (s.heap.objs.size + 1) scope.names []).lookup y.1).isSome = true) := fun y hy => by
    rcases S.par y.1 (List.of_mem_zip (a := y.1) (b := y.2) hy).1 with q | q
    · exact .inl q
    · exact .inr ⟨q, PySem.W.cellsFrom_some _ _ _ (.inl q)⟩
  refine codeAny_call_function hr.depth (KX _ _ lk) rfl S.co S.gen rfl (PySem.W.codeRec_of KX hcd) (hb _ _ _ _ (wpAny_newFunctionEnv_cells S.kind hkind fun env he s1 x => ?_))
  subst he
  refine ⟨lim.keeps x.toInCall.keep, codeAny_func ?_⟩
  have I : Inv (cxOf (L2.CX P w) P w K mg base N qual scope f cdv A outer s H E) [] (L2.start N vs) H s1 := inv_start S hr.hd e0 hl r x
  have tk : Takes (cxOf (L2.CX P w) P w K mg base N qual scope f cdv A outer s H E) (fun cls d _ H' => E cls d H') := takes_of rfl rfl rfl rfl
  have hps := hbody A outer s H E (hr.deeper _) (by show A.guards = some []; exact hG) tk (passes_of rfl)
  have hrun : rdS ⟨K, cl⟩ (fun cls d _ H' => E cls d H') δ { nx := fun _ H' => Q .non H', rt := Q } (L2.start N vs) H := by
    refine ⟨Z, startD N.length ds, μ, g, slots_start rd, ?_⟩
    unfold runBody at hp
    cases e : δ (startD N.length ds) μ with
    | nx ρ1 μ1 =>
      rw [e] at hp
      exact fun Z' H' σ' l g' _ => hp Z' H' _ l g' .non
    | rt d μ1 =>
      rw [e] at hp
      exact hp
    | exc C fs ρ1 μ1 =>
      rw [e] at hp
      exact fun Z' H' σ' dx l g' _ ex => hp Z' H' dx l g' ex
    | bk ρ1 μ1 =>
      rw [e] at hp
      exact False.elim hp
    | ct ρ1 μ1 =>
      rw [e] at hp
      exact False.elim hp
    | bad =>
      rw [e] at hp
      exact False.elim hp
  refine wpAny_mono (hps.run [] s1 (L2.start N vs) H _ I hrun) (fun fl s' hs => ?_) fun e s' hs => hs
  have fin : ∀ {σ' : St} {H' : Hp} {v : V} {u : Value}, Inv (cxOf (L2.CX P w) P w K mg base N qual scope f cdv A outer s H E) [] σ' H' s' → RelV v u → Q v H' → CE outer P w H s Q u s' := fun J rv q => ⟨_, _, J.os, J.bare, J.base, J.hok, rv, q⟩
  cases fl with
  | ret u =>
    obtain ⟨v, σ', H', J, rv, q⟩ := hs
    exact fin J rv q
  | next =>
    obtain ⟨σ', H', J, q⟩ := hs
    exact fin (v := V.non) (u := Value.none) J rfl q
  | brk =>
    obtain ⟨_, _, _, q⟩ := hs
    exact False.elim q
  | cont =>
    obtain ⟨_, _, _, q⟩ := hs
    exact False.elim q
end DL

set_option Elab.async false
set_option linter.all false
set_option autoImplicit false
set_option maxRecDepth 100000
/-! DL, part i: calls of the program's own defs. -/
namespace DL
open PySem L2

def kwNames (kws : List Keyword) : List Str := kws.filterMap (·.arg)
theorem kw_names {pos : Pos} {env : PySem.Env} : ∀ (kws : List Keyword), (backToKw pos (keywordEach kws env)).filterMap (·.1) = kwNames kws
  | [] => rfl
  | ⟨n, v, p⟩ :: r => by
    have ih := kw_names (pos := pos) (env := env) r
    unfold backToKw kwNames at ih ⊢
    cases n with
    | none => simpa [keywordEach] using ih
    | some x => simpa [keywordEach] using ih
theorem kw_all {pos : Pos} {env : PySem.Env} : ∀ {kws : List Keyword}, kws.all (·.arg.isSome) = true → (backToKw pos (keywordEach kws env)).all (·.1.isSome) = true ∧ (backToKw pos (keywordEach kws env)).any (·.1.isNone) = false
  | [], _ => ⟨rfl, rfl⟩
  | ⟨n, v, p⟩ :: r, h => by
    rw [List.all_cons] at h
    obtain ⟨h1, h2⟩ := Bool.and_eq_true_iff.mp h
    obtain ⟨i1, i2⟩ := kw_all (pos := pos) (env := env) h2
    unfold backToKw at i1 i2 ⊢
    cases n with
    | none => cases h1
    | some x =>
      refine ⟨?_, ?_⟩
      · rw [keywordEach, List.map_cons, List.all_cons, i1]
        rfl
      · rw [keywordEach, List.map_cons, List.any_cons, i2]
        rfl
theorem PK.imp {X : Cx} {e : List Keyword} {t t' : TA} (h : PK X e t) (i : ∀ σ H Q, t' σ H Q → t σ H Q) : PK X e t' := ⟨fun pos pins s σ H Q I w => h.run pos pins s σ H Q I (i σ H Q w)⟩
section
variable {X : Cx} {c : Nat → Addr} {W : WX} {pos : Pos}
theorem dk_nil : PK X [] (rdA (tb X c) W dNil) := PK.imp pk_nil fun σ H Q ⟨Z, ρ, μ, g, s, h⟩ => h Z H [] Step.rfl g .nil
theorem dk_cons {n : Option Str} {p : Pos} {e : Expr} {es : List Keyword} {δ : DenE} {δs : DenA} (ha : PE X e (rdE (tb X c) W δ)) (hr : PK X es (rdA (tb X c) W δs)) : PK X (⟨n, e, p⟩ :: es) (rdA (tb X c) W (dCons δ δs)) := by
  refine PK.imp (pk_cons ha hr) fun σ H Q h => ?_
  obtain ⟨Z, ρ, μ, g, s, h1⟩ := rd_then (R := Rep (tb X c)) (f := fun ρ x μ1 => (δs ρ μ1).bind fun xs μ2 => .ok (x :: xs) μ2) h
  refine ⟨Z, ρ, μ, g, s, post_mono h1 fun x H1 ⟨Z1, ρ1, dx, μ1, g1, s1, rx, q1⟩ => ?_⟩
  refine ⟨Z1, ρ1, μ1, g1, s1, post_mono (post_bind (R := Reps (tb X c)) q1) fun xs H2 ⟨Z2, dxs, μ2, l2, g2, rxs, q2⟩ => ?_⟩
  exact q2 Z2 H2 _ Step.rfl g2 (.cons (rx.mono l2.le) rxs)

/-- the arguments of a call, then the call itself -/
theorem args_run {α β : Type} {R : Wd → α → β → Prop} {pins : List (Addr × Obj)} {σ : St} {H : Hp} {s : Shared} {es : List Expr} {kws : List Keyword} {δs δk : DenA} {f : List D → List D → Store → Res α} {Q : β → Hp → Prop} {fv : Value} {first : List Value} {Qv : Value → Shared → Prop}
    (hk : PySem.W.keepIn X.K fv = true) (hnil : es = [] → δs = dNil) (hst : es.all notStar = true) (hkn : kws.all (·.arg.isSome) = true) (ha : PA X es (rdA (tb X c) W δs)) (hkw : PK X kws (rdA (tb X c) W δk)) (I : Inv X pins σ H s)
    (h : rdG (tb X c) R W (fun ρ μ => (δs ρ μ).bind fun ds μ1 => (δk ρ μ1).bind fun zs μ2 => f ds zs μ2) σ H Q)
    (cont : ∀ us ws s1 vs zs H1 Z ρ μ ds ks, Inv X pins σ H1 s1 → Vals vs us → Vals zs ws → Good (tb X c) Z H1 μ → Slots (tb X c) Z ρ σ → Reps (tb X c) Z ds vs → Reps (tb X c) Z ks zs → post (tb X c) R W Z H1 σ (f ds ks μ) Q →
      wpAny (model X.prog X.w) X.A (call fv (first ++ us) ((kwNames kws).zip ws)) Qv X.xe s1) :
    wpAny (model X.prog X.w) X.A (callWith pos fv first (backTo pos (starEach es X.env)) (backToKw pos (keywordEach kws X.env))) Qv X.xe s := by
  -- both readings at once
  have hd : rdA (tb X c) W δs σ H (fun vs H1 => ∃ Z ρ ds μ, Good (tb X c) Z H1 μ ∧ Slots (tb X c) Z ρ σ ∧ Reps (tb X c) Z ds vs ∧ post (tb X c) R W Z H1 σ ((δk ρ μ).bind fun zs μ2 => f ds zs μ2) Q) :=
    rd_then (R := Reps (tb X c)) (f := fun ρ ds μ1 => (δk ρ μ1).bind fun zs μ2 => f ds zs μ2) h
  have hkd : ∀ {vs : List V} {H1 : Hp}, (∃ Z ρ ds μ, Good (tb X c) Z H1 μ ∧ Slots (tb X c) Z ρ σ ∧ Reps (tb X c) Z ds vs ∧ post (tb X c) R W Z H1 σ ((δk ρ μ).bind fun zs μ2 => f ds zs μ2) Q) →
      rdA (tb X c) W δk σ H1 (fun zs H2 => ∃ Z ρ μ ds ks, Good (tb X c) Z H2 μ ∧ Slots (tb X c) Z ρ σ ∧ Reps (tb X c) Z ds vs ∧ Reps (tb X c) Z ks zs ∧ post (tb X c) R W Z H2 σ (f ds ks μ) Q) := fun {vs H1} ⟨Z, ρ, ds, μ, g, s, r, q⟩ =>
    ⟨Z, ρ, μ, g, s, post_mono (post_bind (R := Reps (tb X c)) q) fun zs H2 ⟨Z2, ks, μ2, l2, g2, r2, q2⟩ => ⟨Z2, ρ, μ2, ds, ks, g2, s.mono l2.le, r.mono l2.le, r2, q2⟩⟩
  have z : ∀ us s1 vs H1, Inv X pins σ H1 s1 → Vals vs us → (∃ Z ρ ds μ, Good (tb X c) Z H1 μ ∧ Slots (tb X c) Z ρ σ ∧ Reps (tb X c) Z ds vs ∧ post (tb X c) R W Z H1 σ ((δk ρ μ).bind fun zs μ2 => f ds zs μ2) Q) →
      wpAny (model X.prog X.w) X.A (evalAll ((backToKw pos (keywordEach kws X.env)).map (·.2))) (fun ws s2 => X.K.In s2.heap ∧ wpAny (model X.prog X.w) X.A (call fv (first ++ us) (((backToKw pos (keywordEach kws X.env)).filterMap (·.1)).zip ws)) Qv X.xe s2) X.xe s1 := by
    intro us s1 vs H1 I1 r1 q1
    refine thn (hkw.run pos pins s1 σ H1 _ I1 (hkd q1)) fun ws s2 ⟨zs, H2, I2, rz, Z, ρ, μ, ds, ks, g, sl, rd, rk, q2⟩ => ⟨I2.kIn, ?_⟩
    rw [kw_names]
    exact cont us ws s2 vs zs H2 Z ρ μ ds ks I2 r1 rz g sl rd rk q2
  obtain ⟨k1, k2⟩ := kw_all (pos := pos) (env := X.env) hkn
  cases es with
  | cons e es =>
    rw [List.all_cons] at hst
    obtain ⟨h1, h2⟩ := Bool.and_eq_true_iff.mp hst
    have hpl : ((backTo pos (starEach (e :: es) X.env)).any (·.1) || (backToKw pos (keywordEach kws X.env)).any (·.1.isNone)) = false := by
      rw [k2, star_any (by rw [List.all_cons, h1, h2]; rfl)]
      rfl
    exact PySem.W.callWith_KW (h₀ := X.base) I.ok.mod.kin hk k1 (thn (ha.run pos pins s σ H _ I hd) fun us s1 ⟨vs, H1, I1, r1, q1⟩ => z us s1 vs H1 I1 r1 q1) hpl (star_cons h1 es X.env)
  | nil =>
    have hpl : ((backTo pos (starEach [] X.env)).any (·.1) || (backToKw pos (keywordEach kws X.env)).any (·.1.isNone)) = false := by
      rw [k2]
      rfl
    refine PySem.W.callWith_KW0 (h₀ := X.base) I.ok.mod.kin hk k1 ?_ hpl
    have e := hnil rfl
    subst e
    obtain ⟨Z, ρ, μ, g, sl, q⟩ := hd
    exact z [] s [] H I .nil (q Z H [] Step.rfl g .nil)
end

/-! ### how arguments come to parameters -/
/-- np values by place, then the values of the keywords ks; g puts them in the parameters' order, defaults among them -/
def KB (T : Tab) (fd : FuncData) (ps ks : List Str) (np : Nat) (g : List D → List D → List D) : Prop := ∀ (s : Shared) (us ws : List Value), T.K.In s.heap → us.length = np → ws.length = ks.length →
  ∃ bs : List Value, bs.length = ps.length ∧ BindsTo s fd ⟨us, ks.zip ws⟩ (ps.zip bs) ∧ ∀ vs zs, Vals vs us → Vals zs ws → ∃ bv, Vals bv bs ∧ ∀ Z ds es, Reps T Z ds vs → Reps T Z es zs → Reps T Z (g ds es) bv
/-- all by place -/
theorem kb_pos {T : Tab} {fd : FuncData} {ps : List Str} (h : Binds T.K fd ps []) : KB T fd ps [] ps.length (fun ds _ => ds) := fun s us ws KX hu hw => by
  have e := h s us KX (by rw [List.append_nil]; exact hu)
  rw [List.append_nil] at e
  exact ⟨us, hu, e, fun vs zs r _ => ⟨vs, r, fun Z ds es q _ => q⟩⟩
def dCallK (np nk : Nat) (g : List D → List D → List D) (m : Mir) (δs δk : DenA) : DenE := fun ρ μ => (δs ρ μ).bind fun ds μ1 => (δk ρ μ1).bind fun zs μ2 => if ds.length = np ∧ zs.length = nk then m (g ds zs) μ2 else .bad
section
variable {X : Cx} {c : Nat → Addr} {W : WX} {pos p : Pos} {x : Str} {es : List Expr} {kws : List Keyword} {δs δk : DenA} {k np : Nat} {f : Addr} {fd : FuncData} {ps : List Str} {m : Mir} {g : List D → List D → List D}
theorem de_call (F : GnOk X.prog X.w X.K X.mg X.base k f fd ps (spM (tb X c) ps.length m)) (hr : Room k X.A) (hG : X.A.guards = some []) (tk : Takes X W) (hg : Gl X x) (hm : X.mg x = some (.ref f)) (hk : PySem.W.keepIn X.K (.ref f) = true)
    (hb : KB (tb X c) fd ps (kwNames kws) np g) (hdb : (x == ("__debug__" : Str)) = false) (hnil : es = [] → δs = dNil) (hst : es.all notStar = true) (hkn : kws.all (·.arg.isSome) = true) (ha : PA X es (rdA (tb X c) W δs)) (hkw : PK X kws (rdA (tb X c) W δk)) :
    PE X (.Call (.Name x p) es kws pos) (rdE (tb X c) W (dCallK np (kwNames kws).length g m δs δk)) := by
  refine ⟨fun pins s σ H Q I h => ?_⟩
  refine wpAny_Call_Name_kw (ld_glob I hg hm ?_ hdb)
  refine args_run hk hnil hst hkn ha hkw I (f := fun ds zs μ2 => if ds.length = np ∧ zs.length = (kwNames kws).length then m (g ds zs) μ2 else .bad) h fun us ws s1 vs zs H1 Z ρ μ ds es' I1 r1 rz gd sl rd rk q => ?_
  by_cases hl : ds.length = np ∧ es'.length = (kwNames kws).length
  · rw [if_pos hl] at q
    obtain ⟨bs, b1, b2, b3⟩ := hb s1 us ws I1.kIn (by rw [← r1.length, ← rd.length]; exact hl.1) (by rw [← rz.length, ← rk.length]; exact hl.2)
    obtain ⟨bv, v1, v2⟩ := b3 vs zs r1 rz
    refine run_gn (args := ⟨us, (kwNames kws).zip ws⟩) F hr hG tk I1 b2 v1 ⟨by rw [v1.length, b1], Z, g ds es', μ, gd, v2 Z ds es' rd rk, ?_⟩
    exact post_w q fun _ _ _ z => z
  · rw [if_neg hl] at q
    exact False.elim q
end
end DL

set_option Elab.async false
set_option linter.all false
set_option autoImplicit false
set_option maxRecDepth 100000
/-! DL, part j: list comprehensions. -/
namespace DL
open PySem L2

def wipeD (ρ : Env) : List Nat → Env
  | [] => ρ
  | i :: r => wipeD (ρ.set i none) r
theorem wipeD_at {j : Nat} : ∀ {vs : List Nat} {ρ : Env} {d : D}, (wipeD ρ vs)[j]? = some (some d) → j ∉ vs ∧ ρ[j]? = some (some d)
  | [], _, _, h => ⟨by simp, h⟩
  | i :: r, ρ, d, h => by
    obtain ⟨h1, h2⟩ := wipeD_at (vs := r) h
    by_cases e : i = j
    · subst e
      by_cases hl : i < ρ.length
      · rw [List.getElem?_set_self hl] at h2
        cases h2
      · rw [List.getElem?_eq_none (by simp; omega)] at h2
        cases h2
    · rw [List.getElem?_set_ne e] at h2
      exact ⟨by simp [Ne.symm e, h1], h2⟩
theorem wipeD_len : ∀ {vs : List Nat} {ρ : Env}, (wipeD ρ vs).length = ρ.length
  | [], _ => rfl
  | i :: r, ρ => by
    show (wipeD (ρ.set i none) r).length = _
    rw [wipeD_len, List.length_set]
theorem slots_blk {T : Tab} {Z : Wd} {σ : St} {ρ : Env} {vs : List Nat} (h : Slots T Z ρ σ) : Slots T Z (wipeD ρ vs) (wipe σ vs) := by
  refine ⟨by rw [wipeD_len, wipe_length]; exact h.1, fun i d e => ?_⟩
  obtain ⟨h1, h2⟩ := wipeD_at e
  obtain ⟨v, h3, h4⟩ := h.2 i d h2
  exact ⟨v, by rw [wipe_out h1]; exact h3, h4⟩
/-- no exception leaves -/
def noX {α : Type} (r : Res α) : Res α := match r with
  | .ok a μ => .ok a μ
  | _ => .bad
/-- what a turn's target makes of the slots -/
abbrev DenV := D → Env → Option Env
def vName (i : Nat) : DenV := fun d ρ => some (ρ.set i (some d))
def vTup2 (i j : Nat) : DenV := fun d ρ => match d with
  | .tup [x, y] => some ((ρ.set i (some x)).set j (some y))
  | _ => none
def lcL (γ : DenV) (τ : DenT) (ε : DenE) (ρ : Env) : List D → List D → Store → Res (List D)
  | [], acc, μ => .ok acc μ
  | d :: ds, acc, μ => match γ d ρ with
    | none => .bad
    | some ρ1 => (noX (τ ρ1 μ)).bind fun b μ2 => if b = true then (noX (ε ρ1 μ2)).bind fun y μ3 => if acc.length < sizeLine then lcL γ τ ε ρ ds (acc ++ [y]) μ3 else .bad else lcL γ τ ε ρ ds acc μ2
def kLs (xs : List D) (μ : Store) : Res D := .ok (.lst xs) μ
def dLc (own : List Nat) (it : DenI) (γ : DenV) (τ : DenT) (ε : DenE) : DenE := fun ρ μ => (it ρ μ).bind fun items μ1 => (lcL γ τ ε (wipeD ρ own) items [] μ1).bind kLs
def tYesD : DenT := fun _ μ => .ok true μ
abbrev W0 : WX := fun _ _ _ _ => False
theorem post_noX {α β : Type} {T : Tab} {R : Wd → α → β → Prop} {W : WX} {Z : Wd} {H : Hp} {σ σ' : St} {r : Res α} {Q : β → Hp → Prop} (h : post T R W Z H σ (noX r) Q) : post T R W0 Z H σ' r Q := by
  cases r with
  | ok d μ => exact h
  | exc C fs μ => exact False.elim h
  | bad => exact h
/-- a target's reading g in a comprehension's block does what γ says, and changes the block's own slots alone -/
def TgOk (T : Tab) (own : List Nat) (g : TG) (γ : DenV) : Prop := ∀ Z H μ (ρ ρ1 : Env) (σ : St) (d : D) (v : V) (Q : St → Hp → Prop), Good T Z H μ → Slots T Z ρ (wipe σ own) → Rep T Z d v → γ d ρ = some ρ1 → (∀ σ2, wipe σ2 own = wipe σ own → Slots T Z ρ1 σ2 → Q σ2 H) → g v (wipe σ own) H Q
theorem wipe_set {σ : St} {i : Nat} {x : Option V} : ∀ {vs : List Nat}, i ∈ vs → wipe (σ.set i x) vs = wipe σ vs := by
  have one : ∀ (σ : St) (vs : List Nat) (i : Nat), i ∈ vs → ∀ x, wipe (σ.set i x) vs = wipe σ vs := by
    intro σ vs i hi x
    apply List.ext_getElem?
    intro j
    by_cases hj : j ∈ vs
    · -- both are forgotten there
      have a1 : ∀ τ : St, τ.length = σ.length → (wipe τ vs)[j]? = if j < σ.length then some none else none := fun τ hτ => by
        by_cases hl : j < σ.length
        · rw [if_pos hl]
          cases e : (wipe τ vs)[j]? with
          | none =>
            rw [List.getElem?_eq_none_iff, wipe_length] at e
            omega
          | some o =>
            cases o with
            | none => rfl
            | some v => exact absurd hj (wipe_some e).2
        · rw [if_neg hl, List.getElem?_eq_none_iff, wipe_length]
          omega
      rw [a1 _ (by simp), a1 _ rfl]
    · rw [wipe_out hj, wipe_out hj, List.getElem?_set_ne (fun e => hj (by rw [← e]; exact hi))]
  intro vs hi
  exact one σ vs i hi x
theorem wipe_wipe {σ : St} {vs : List Nat} : wipe (wipe σ vs) vs = wipe σ vs := by
  apply List.ext_getElem?
  intro j
  by_cases hj : j ∈ vs
  · cases e : (wipe (wipe σ vs) vs)[j]? with
    | none =>
      rw [List.getElem?_eq_none_iff, wipe_length] at e
      rw [List.getElem?_eq_none_iff.mpr e]
    | some o =>
      cases o with
      | some v => exact absurd hj (wipe_some e).2
      | none =>
        cases e2 : (wipe σ vs)[j]? with
        | none =>
          rw [List.getElem?_eq_none_iff] at e2
          rw [List.getElem?_eq_none_iff.mpr (by rw [wipe_length]; exact e2)] at e
          cases e
        | some o2 =>
          cases o2 with
          | none => rfl
          | some v => exact absurd hj (wipe_some e2).2
  · rw [wipe_out hj]
theorem tg_name {T : Tab} {own : List Nat} {i : Nat} (hi : i ∈ own) : TgOk T own (gName i) (vName i) := fun Z H μ ρ ρ1 σ d v Q g s r e k => by
  cases e
  exact k _ (by rw [wipe_set hi, wipe_wipe]) (s.set r i)
theorem tg_tup2 {T : Tab} {own : List Nat} {i j : Nat} (hi : i ∈ own) (hj : j ∈ own) : TgOk T own (gTup T.K 2 (gCons (gName i) (gCons (gName j) gNil))) (vTup2 i j) := fun Z H μ ρ ρ1 σ d v Q g s r e k => by
  unfold vTup2 at e
  split at e
  · rename_i x y
    cases e
    cases r with
    | @tup a vs ds hq r =>
      cases r with
      | @cons d1 v1 ds1 vs1 r1 r2 =>
        cases r2 with
        | @cons d2 v2 ds2 vs2 r2 r3 =>
          cases r3
          refine ⟨a, _, rfl, Same.sqt g.sub hq, rfl, v1, _, rfl, v2, _, rfl, rfl, ?_⟩
          exact k _ (by rw [wipe_set hj, wipe_set hi, wipe_wipe]) ((s.set r1 i).set r2 j)
  · cases e
theorem rd_lc {T : Tab} {W : WX} {own : List Nat} {it : DenI} {γ : DenV} {τ : DenT} {ε : DenE} {g : TG} {σ : St} {H : Hp} {Q : VK} (tg : TgOk T own g γ) (h : rdE T W (dLc own it γ τ ε) σ H Q) :
    tLc (rdI T W it) g (rdT T W0 τ) (rdE T W0 ε) own σ H Q := by
  obtain ⟨Z, ρ, μ, g0, s, h1⟩ := rd_then (R := RI T) (f := fun ρ items μ1 => (lcL γ τ ε (wipeD ρ own) items [] μ1).bind kLs) h
  refine ⟨Z, ρ, μ, g0, s, post_mono h1 fun J H1 ⟨Z1, ρ1, items, μ1, g1, s1, ri, q1⟩ => ?_⟩
  intro L hD
  refine ⟨fun i m H' => ∃ Z' μ' acc vs, Step Z1 H1 Z' H' ∧ Good T Z' H' μ' ∧ L ∉ Z'.f ∧ Z'.g L = none ∧ H' L = some (.lst vs) ∧ Reps T Z' acc vs ∧ m = (items.drop i).length ∧ i ≤ items.length ∧ post T (Rep T) W Z1 H1 σ ((lcL γ τ ε (wipeD ρ1 own) (items.drop i) acc μ').bind kLs) Q, ⟨_, Z1, μ1, [], [], ?_, ?_, ?_, g1.free hD, upd_same, .nil, rfl, Nat.zero_le _, q1⟩, ?_⟩
  · exact ⟨Le.refl Z1, fun a o e n => ⟨by rw [upd_ne (ne_of_none e hD)]; exact e, n, fun z => z⟩⟩
  · exact g1.over _ (fun hm => g1.there L hm hD) (g1.free hD)
  · exact fun hm => g1.there L hm hD
  rintro i m H' ⟨Z', μ', acc, vs, st, g', nf, ng, hl, ra, hm, hle, q'⟩
  obtain ⟨go, stop⟩ := ri Z' H' μ' i st.le g'
  by_cases hi : i < items.length
  · obtain ⟨j1, j2⟩ := go hi
    rw [List.drop_eq_getElem_cons hi] at q' hm
    refine .inr ⟨j1, fun H2 => ∃ Z' μ' acc vs, Step Z1 H1 Z' H2 ∧ Good T Z' H2 μ' ∧ L ∉ Z'.f ∧ Z'.g L = none ∧ H2 L = some (.lst vs) ∧ Reps T Z' acc vs ∧ post T (Rep T) W Z1 H1 σ ((lcL γ τ ε (wipeD ρ1 own) (items.drop (i + 1)) acc μ').bind kLs) Q, fun H2 ⟨Z2, μ2, acc2, vs2, t1, t2, t3, t4, t5, t6, t7⟩ => ⟨_, ?_, Z2, μ2, acc2, vs2, t1, t2, t3, t4, t5, t6, rfl, hi, t7⟩, fun x H2 y => ?_⟩
    · rw [hm, List.length_cons]
      exact Nat.lt_succ_self _
    · obtain ⟨Z2, d, st2, g2, e2, r2⟩ := j2 x H2 y
      have e3 : items[i] = d := Option.some.inj ((List.getElem?_eq_getElem hi).symm.trans e2)
      rw [e3] at q'
      simp only [lcL] at q'
      have f2 := st2.fr L _ hl nf
      cases eg : γ d (wipeD ρ1 own) with
      | none =>
        rw [eg] at q'
        exact False.elim q'
      | some ρ3 =>
        rw [eg] at q'
        refine tg Z2 H2 μ' (wipeD ρ1 own) ρ3 σ d x _ g2 (slots_blk (s1.mono (st.le.trans st2.le))) r2 eg fun σ2 hw s2 => ⟨hw, ?_⟩
        -- the test
        have stz := st.trans st2
        have bind2 : ∀ {α β : Type} {R : Wd → α → β → Prop} (r : Res α) (f : α → Store → Res (List D)) (Zc : Wd) (Hc : Hp), Step Z1 H1 Zc Hc → post T (Rep T) W Z1 H1 σ (((noX r).bind f).bind kLs) Q →
            post T R W0 Zc Hc σ2 r (fun v H' => ∃ Z' a μ, Step Zc Hc Z' H' ∧ Good T Z' H' μ ∧ R Z' a v ∧ post T (Rep T) W Z1 H1 σ ((f a μ).bind kLs) Q) := by
          intro α β R r f Zc Hc stc q
          cases r with
          | ok a μ => exact fun Z3 H3 v l g r => ⟨Z3, a, μ, l, g, r, q⟩
          | exc C fs μ => exact False.elim q
          | bad => exact False.elim q
        refine ⟨Z2, ρ3, μ', g2, s2, post_mono (bind2 (R := EqB) _ _ Z2 H2 stz q') fun b H3 ⟨Z3, b1, μ3, st3, g3, rb, q3⟩ => ?_⟩
        have rb' : b1 = b := rb
        subst rb'
        have f3 := st3.fr L _ f2.1 f2.2.1
        cases b1 with
        | false =>
          rw [if_neg Bool.false_ne_true] at q3 ⊢
          exact ⟨Z3, μ3, acc, vs, stz.trans st3, g3, f3.2.1, f3.2.2 (f2.2.2 ng), f3.1, ra.mono (st2.le.trans st3.le), q3⟩
        | true =>
          rw [if_pos rfl] at q3 ⊢
          refine ⟨Z3, ρ3, μ3, g3, s2.mono st3.le, post_mono (bind2 (R := Rep T) _ _ Z3 H3 (stz.trans st3) q3) fun y H4 ⟨Z4, dy, μ4, st4, g4, ry, q4⟩ => ?_⟩
          have f4 := st4.fr L _ f3.1 f3.2.1
          have n4 := f4.2.2 (f3.2.2 (f2.2.2 ng))
          have ra4 := ra.mono ((st2.le.trans st3.le).trans st4.le)
          by_cases hz : acc.length < sizeLine
          · rw [if_pos hz] at q4
            have sta := (stz.trans st3).trans st4
            refine ⟨vs, f4.1, by rw [← ra4.length]; exact hz, Z4, μ4, acc ++ [dy], vs ++ [y], ⟨sta.le, fun a o e n => ?_⟩, g4.over _ f4.2.1 n4, f4.2.1, n4, upd_same, ra4.append (.cons ry .nil), q4⟩
            have z := sta.fr a o e n
            exact ⟨by rw [upd_ne (ne_of_none e hD)]; exact z.1, z.2.1, z.2.2⟩
          · rw [if_neg hz] at q4
            exact False.elim q4
  · rw [List.drop_eq_nil_of_le (by omega)] at q'
    obtain ⟨l2, g2⟩ := g'.adopt hl nf ng
    refine .inl ⟨stop (by omega), q' (Z'.add L (.lst vs)) H' _ ⟨st.le.trans l2, fun a o e n => ?_⟩ g2 (.lst upd_same (ra.mono l2))⟩
    have z := st.fr a o e n
    refine ⟨z.1, z.2.1, fun q => ?_⟩
    show upd Z'.g L (.lst vs) a = none
    rw [upd_ne (ne_of_none e hD)]
    exact z.2.2 q

section
variable {X : Cx} {c : Nat → Addr} {W : WX} {pos : Pos} {elt tg iter : Expr} {ifs : List Expr} {scope : Scope} {own : List (Str × Nat)} {it : DenI} {γ : DenV} {τ : DenT} {ε : DenE} {g : TG}
theorem dts_nil : PTs X [] (rdT (tb X c) W tYesD) := ⟨fun pins s σ H Q I ⟨Z, ρ, μ, g, sl, h⟩ => pts_nil.run pins s σ H Q I (h Z H true Step.rfl g rfl)⟩
theorem dts_one {t : Expr} (h : PT X t (rdT (tb X c) W τ)) : PTs X [t] (rdT (tb X c) W τ) := pts_one h
/-- a comprehension's block -/
abbrev Blk (X : Cx) (scope : Scope) (P : Cx → Prop) : Prop := ∀ (s : Shared) (H : Hp) (C : Addr) (cl : List (Str × Addr)) (fp : List Addr), P (X.blk s H scope (compEnvC scope cl C X.env) fp)
theorem de_lc (hc : X.calm = true) (hN : X.N.Nodup) (hi : PI X tg iter (rdI (tb X c) W it)) (ok : BlkOk X.N X.env.scope scope own) (hg : Blk X scope fun Y => PG Y tg g) (tgk : TgOk (tb X c) (own.map (·.2)) g γ)
    (ht : Blk X scope fun Y => PTs Y ifs (rdT (tb X c) W0 τ)) (he : Blk X scope fun Y => PE Y elt (rdE (tb X c) W0 ε)) (hs : ∀ x, foldedSetIterable iter X.env x = pure x) :
    PE X (.ListComp elt [⟨tg, iter, ifs, 0⟩] scope pos) (rdE (tb X c) W (dLc (own.map (·.2)) it γ τ ε)) :=
  PE.imp (pe_lc hc hN hi ok hg ht he hs) fun _ _ _ h => rd_lc tgk h
theorem ds_setLc {i : Nat} {y : Str} {py spos : Pos} (hc : X.calm = true) (hN : X.N.Nodup) (hy : X.N[i]? = some y) (hyl : X.env.scope.names.lookup y = some .local) (hsw : swapsWith (.ListComp elt [⟨tg, iter, ifs, 0⟩] scope pos) (some (.Name y py)) spos.line X.env = pure true)
    (hi : PI X tg iter (rdI (tb X c) W it)) (ok : BlkOk X.N X.env.scope scope own) (hg : Blk X scope fun Y => PG Y tg g) (tgk : TgOk (tb X c) (own.map (·.2)) g γ) (ht : Blk X scope fun Y => PTs Y ifs (rdT (tb X c) W0 τ)) (he : Blk X scope fun Y => PE Y elt (rdE (tb X c) W0 ε))
    (hs : ∀ x, foldedSetIterable iter X.env x = pure x) : PS X (.Assign [.Name y py] (.ListComp elt [⟨tg, iter, ifs, 0⟩] scope pos) spos) (rdS (tb X c) W (sSet i (dLc (own.map (·.2)) it γ τ ε))) := by
  refine PS.imp (ps_setLc hc hN hy hyl hsw hi ok hg ht he hs) fun E σ H ⟨Z, ρ, μ, g0, s, q⟩ => ?_
  refine rd_lc tgk ⟨Z, ρ, μ, g0, s, post_mono (post_bindS (R := Rep (tb X c)) s q) fun v H1 ⟨Z1, d, μ1, l, g1, s1, r, q1⟩ => ?_⟩
  exact q1 Z1 H1 _ Step.rfl g1 (s1.set r i)
end
end DL

set_option Elab.async false
set_option linter.all false
set_option autoImplicit false
set_option maxRecDepth 100000
/-! DL, part x: exceptions of the program's own classes as values, made with arguments by place and by name. -/
namespace PySem
namespace DLX
open PySem.W PySem.Calls PyProof.Rows PySem.HandSPX

section
variable {prog : Program} {w : World} {A : Around} {E : Value → Shared → Prop} {R : Result → Shared → Prop} {h : Heap} {g : Array GenState} {d : Drawn} {t : Nat} {os : OsState}
variable {nm q : Str} {C N : Addr} {bs bm bmB : List Value} {hdct : Bool} {sn : List Str} {sub : List Value} {ab : Bool} {col : Option Bool} {dd : Option Addr} {k0 k1 k2 k3 k5 : Option Value} {B newId initId : String}
/-- the new exception's own two objects -/
abbrev twoO (h : Heap) (C : Addr) (rest : List Value) : Heap := (h.push (W.kdv_tup rest)).push (excO C h.objs.size)
theorem check_kw (F : ExcBaseFacts B newId initId bmB) (hT : ∀ X : String, bm.contains (.type X) = bmB.contains (.type X)) {rest : List Value} {kw : List (Str × Value)} {Q : Unit → Shared → Prop}
    (hC : h.get? C = some (excClassObj nm q C N bs bm hdct sn sub ab col dd k0 k1 k2 k3 k5 newId)) (hq : Q () ⟨h, g, d, t, os⟩) : wpAny (model prog w) A (checkBuiltinCall newId ⟨.ref C :: rest, kw⟩) Q E ⟨h, g, d, t, os⟩ := by
  have hB : (Value.ref C :: bm).contains (.type B) = true := by
    rw [List.contains_cons, hT, F.hasB, Bool.or_true]
  have ns := F.noStar
  simp only [checkBuiltinCall, F.newKind, F.newSplit, F.newRow]
  repeat (first
    | refine wpAny_loadPart_at hC ?_
    | (refine wpAny_isSubtype_exc hC ?_; rw [hB])
    | refine wpAny_staticBase_exc hC ?_
    | refine wpAny_madeBy_exc hC ?_
    | simp only [bne_self_eq_false, Bool.false_eq_true, if_false]
    | wp_step)
  exact hq
theorem new_kw (F : ExcBaseFacts B newId initId bmB) (hT : ∀ X : String, bm.contains (.type X) = bmB.contains (.type X)) {rest : List Value} {kw : List (Str × Value)}
    (hC : h.get? C = some (excClassObj nm q C N bs bm hdct sn sub ab col dd k0 k1 k2 k3 k5 newId)) (hr : rest.length ≤ sizeLine) (hq : R (.ok (.ret (.ref (h.objs.size + 1)))) ⟨twoO h C rest, g, d, t, os⟩) :
    codeAny (model prog w) A (.builtin newId ⟨.ref C :: rest, kw⟩) R ⟨h, g, d, t, os⟩ := by
  have he := F.ends
  have hB : (Value.ref C :: bm).contains (.type B) = true := by
    rw [List.contains_cons, hT, F.hasB, Bool.or_true]
  have hA : (Value.ref C :: bm).contains (.type "AttributeError") = false := by
    rw [List.contains_cons, hT, F.noAttr] <;> rfl
  have hN : (Value.ref C :: bm).contains (.type "NameError") = false := by
    rw [List.contains_cons, hT, F.noName] <;> rfl
  refine codeAny_builtinAt F.entry ?_
  unfold Builtin.«BaseException.__new__»
  refine wpAt_bind ?_
  show wpAt _ _ _ (stack >>= _) _ _ _
  refine wpAt_bind (wpAt_stack fun p below => wpAt_of_wpAny ?_)
  wp_walk
  refine wpAt_of_wpAny ?_
  rw [F.owner]
  repeat (first
    | with_reducible refine wpAny_madeHere_exc F.canon hC ?_
    | with_reducible refine wpAny_loadPart_at hC ?_
    | (with_reducible refine wpAny_isSubtype_exc hC ?_; first | rw [hB] | rw [hA] | rw [hN])
    | wp_step)
  show R _ _
  rw [Heap.size_push]
  exact hq
/-- type.__call__: the new object, then __init__ -/
theorem make_kw (F : ExcBaseFacts B newId initId bmB) (hT : ∀ X : String, bm.contains (.type X) = bmB.contains (.type X)) {rest : List Value} {kw : List (Str × Value)} {fI : Addr} {Q : Fin → Shared → Prop}
    (hC : h.get? C = some (excClassObj nm q C N bs bm hdct sn sub ab col dd k0 k1 k2 k3 k5 newId))
    (hi : W.Looks (model prog w) h (typeLookup (.ref C) "__init__") (some (.ref fI))) (hb : ∀ self, W.Looks (model prog w) h (bindSpecial (.ref fI) self) (.ref fI, [self])) (hr : rest.length ≤ sizeLine)
    (hq : codeAny (model prog w) A (.call (.ref fI) ⟨.ref (h.objs.size + 1) :: rest, kw⟩)
      (fun r s' => match r with
        | .ok (.ret v) => v = .none ∧ Q (.done (.ret (.ref (h.objs.size + 1)))) s'
        | .ok _ => False
        | .error e => E e s') ⟨twoO h C rest, g, d, t, os⟩) :
    wpAny (model prog w) A (Builtin.«type.__call__» ⟨.ref C :: rest, kw⟩) Q E ⟨h, g, d, t, os⟩ := by
  repeat (first
    | with_reducible refine wpAny_loadPart_at hC ?_
    | with_reducible refine wpAny_madeBy_exc hC ?_
    | wp_step)
  refine codeAny_call_builtin_code (Code.quiet_builtin _ F.quiet) (check_kw F hT hC (new_kw F hT hC hr ?_))
  show wpAny _ _ _ _ _ _
  have kp : ∀ b o, h.get? b = some o → (twoO h C rest).get? b = some o := fun b o e => Heap.get?_push_of_some _ (Heap.get?_push_of_some _ e)
  have c1 := kp _ _ hC
  have ge : (twoO h C rest).get? (h.objs.size + 1) = some (excO C h.objs.size) := by heap_get
  have hcC : (Value.ref C :: bm).contains (.ref C) = true := by simp
  have i1 := hi.keeps kp
  have b1 := (hb (.ref (h.objs.size + 1))).keeps kp
  unfold isInstance
  repeat (first
    | with_reducible refine wpAny_loadPart_at ge ?_
    | (with_reducible refine wpAny_isSubtype_exc c1 ?_; rw [hcC])
    | wp_step)
  show wpAny _ _ (typeLookup (.ref C) _) _ _ _
  refine i1.at (wpAny_holding (wpAny_bind (b1.at (wpAny_bind (wpAny_call (codeAny_mono hq fun r s' z => ?_))))))
  rcases r with e | (v | _ | _ | _) <;> first | exact z | exact z.elim | skip
  obtain ⟨rfl, z⟩ := z
  first
    | exact wpAny_pure (wpAny_pure z)
    | (wp_walk; exact z)
theorem call_kw (F : ExcBaseFacts B newId initId bmB) (hT : ∀ X : String, bm.contains (.type X) = bmB.contains (.type X)) {rest : List Value} {kw : List (Str × Value)} {fI : Addr}
    (hC : h.get? C = some (excClassObj nm q C N bs bm hdct sn sub ab col dd k0 k1 k2 k3 k5 newId))
    (hi : W.Looks (model prog w) h (typeLookup (.ref C) "__init__") (some (.ref fI))) (hb : ∀ self, W.Looks (model prog w) h (bindSpecial (.ref fI) self) (.ref fI, [self])) (hr : rest.length ≤ sizeLine)
    (hq : codeAny (model prog w) (A.under (.builtin "type.__call__" ⟨.ref C :: rest, kw⟩)) (.call (.ref fI) ⟨.ref (h.objs.size + 1) :: rest, kw⟩) (W.InitBack (h.objs.size + 1) R) ⟨twoO h C rest, g, d, t, os⟩) :
    codeAny (model prog w) A (.call (.ref C) ⟨rest, kw⟩) R ⟨h, g, d, t, os⟩ := by
  have f1 := tc_lookup
  have f2 := tc_bind (.ref C)
  have ty : (⟨h, g, d, t, os⟩ : Shared).TypeIs (.ref C) "type" := ⟨_, hC, rfl⟩
  refine codeAny_of_tree ?_
  show wpAny _ _ (callAny (.ref C) _) _ _ _
  repeat (any_goals (first | assumption | with_reducible refine wpAny_loadPart_at hC ?_ | wp_step))
  refine ⟨rfl, codeAny_call_builtin_at (Code.quiet_builtin _ (by decide +kernel)) entry_typeCall (wpAny_check_type_call_sub hC (make_kw F hT hC hi hb hr (codeAny_mono hq fun r s' z => ?_)))⟩
  rcases r with e | (v | _ | _ | _) <;> exact z
end

end DLX
end PySem

set_option Elab.async false
set_option linter.all false
set_option autoImplicit false
set_option maxRecDepth 100000
/-! DL, part y: the fields of own exceptions. -/
namespace PySem
namespace DLX
open PySem.W PySem.Calls PyProof.Rows PySem.HandSPX
open Builtin Builtin.ObjectAttr

/-! ### self.name = v on such an object -/
section
variable {prog : Program} {w : World} {A : Around} {E : Value → Shared → Prop} {R : Result → Shared → Prop} {hp : Heap} {g : Array GenState} {d : Drawn} {t : Nat} {os : OsState}
/-- what the written part says of an own exception class, over the built-in one whose chain is bmB -/
structure Over (K : W.Frag) (C : Addr) (bmB : List Value) (cd : ClassData) : Prop where
  cls : W.clsIn K C = some cd
  mro : ∃ bm, cd.mro = .ref C :: bm ∧ excTail bmB bm = true
  dic : cd.hasDict = true
  obj : bmB.contains (.type "object") = true
  pas : ∀ self, refuseLoop self "__setattr__" bmB = pure ()
variable {K : W.Frag} {C : Addr} {bmB : List Value} {cd : ClassData}
theorem Over.tail (O : Over K C bmB cd) : excTail bmB cd.mro = true ∨ cd.mro = bmB ∨ ∃ bm, cd.mro = .ref C :: bm ∧ excTail bmB bm = true := .inr (.inr O.mro)
theorem Over.has (O : Over K C bmB cd) : cd.mro.contains (.type "object") = true := by
  obtain ⟨bm, e, h⟩ := O.mro
  rw [e, List.contains_cons, excTail_contains "object" _ h, O.obj]
  rfl
theorem Over.ne (O : Over K C bmB cd) : cd.mro.isEmpty = false := by
  obtain ⟨bm, e, _⟩ := O.mro
  rw [e]
  rfl
theorem Over.pass (O : Over K C bmB cd) (self : Value) : refuseLoop self "__setattr__" cd.mro = pure () := by
  obtain ⟨bm, e, h⟩ := O.mro
  rw [e, refuseLoop_ref]
  exact excTail_pass self (O.pas self) _ h
/-- the way to the store itself -/
theorem osa_way {name : Str} {tk : Tok} {v : Value} {x : Addr} {ox : Obj} {od : Option Obj} (O : Over K C bmB cd) (X : K.In hp) (I : W.InstAt hp x ox C od) (ha : W.findIn K (.ref C) name = some none)
    (h : wpAny (model prog w) A.in1 (storeInOwnDict (.ref x) (.ref C) (.str name tk) name v false) (GQ.FinOf prog w A R) (fun e s' => R (.error e) s') ⟨hp, g, d, t, os⟩) :
    codeAny (model prog w) A (.call (.builtin "object.__setattr__") ⟨[.ref x, .str name tk, v], []⟩) R ⟨hp, g, d, t, os⟩ := by
  have SF := F.store_object
  have sb : W.Looks (model prog w) hp (isInstance (.ref x) (.type "object")) true := I.type.andThen (W.looks_mroIn X (by
    unfold W.mroIn
    rw [O.cls, Option.bind_some, if_neg (by rw [O.ne]; decide), O.has]))
  refine codeAny_call_builtin SF.slot.plain SF.entry (@W.check_slot (model prog w) _ _ ⟨hp, g, d, t, os⟩ "object.__setattr__" "object" "__setattr__" (.ref x) [.str name tk, v] [] _ SF.kind SF.split sb (SF.args (.ref x) (.str name tk) v) ?_)
  have mr : W.Looks (model prog w) hp (mroOf (.ref C)) cd.mro := (W.looks_clsIn X O.cls).andThen .now
  have st : W.Looks (model prog w) hp (storeTaker? none) none := .now
  rw [W.osa_eq, refuse_eq]
  refine wpAny_bind (wpAny_bind (I.type.at (wpAny_bind (mr.at ?_))))
  rw [O.pass]
  exact wpAny_pure (wpAny_bind (I.type.at (wpAny_bind ((W.looks_findIn X ha).at (wpAny_bind (st.at h))))))
/-- the first field: the object's dict is made -/
theorem store_first {name : Str} {tk : Tok} {v : Value} {x : Addr} {fv : Array Value} (O : Over K C bmB cd) (X : K.In hp) (hx : hp.get? x = some { cls := .ref C, data := .fields fv }) (ha : W.findIn K (.ref C) name = some none)
    (hq : ∀ h' tk' dx, (∀ b o, b ≠ x → hp.get? b = some o → h'.get? b = some o) → hp.objs.size ≤ dx → dx ≠ x → h'.get? x = some { cls := .ref C, dict := some dx, data := .fields fv } →
      h'.Ns1 dx (fun y => if y = name then some v else none) → R (.ok (.ret .none)) ⟨h', g, d, tk', os⟩) :
    codeAny (model prog w) A (.call (.builtin "object.__setattr__") ⟨[.ref x, .str name tk, v], []⟩) R ⟨hp, g, d, t, os⟩ := by
  refine osa_way O X (ox := { cls := .ref C, data := .fields fv }) (od := none) ⟨hx, rfl, rfl, trivial⟩ ha ?_
  have xs : x ≠ hp.objs.size := Nat.ne_of_lt (Heap.lt_size hx)
  have hc : W.Looks (model prog w) hp (classData C) cd := W.looks_clsIn X O.cls
  have hh := O.dic
  obtain ⟨nm, bs, mro, ns, qn, hd, sn, sb, ab, col, del⟩ := cd
  dsimp only at hh
  subst hh
  unfold storeInOwnDict ownDictForStores
  repeat (first
    | with_reducible refine store_in_new ?_ ?_
    | with_reducible refine wpAny_loadPart_at hx ?_
    | with_reducible refine hc.at ?_
    | wp_step)
  · exact ⟨_, #[], _, (Heap.get?_update_ne _ _ _ _ xs.symm).trans (Heap.get?_push_at rfl rfl), rfl, fun e he => absurd he (by simp), fun _ => rfl⟩
  · intro h' tk' hn' hs
    have x1 : (hp.push { cls := .type "dict", data := .dict #[] }).get? x = some { cls := .ref C, data := .fields fv } := Heap.get?_push_of_some _ hx
    refine hq h' tk' hp.objs.size (fun b o hb ho => ?_) (Nat.le_refl _) xs.symm ((hs.2 x xs).trans (Heap.get?_update_self _ x1 rfl)) hn'
    exact (hs.2 b (Nat.ne_of_lt (Heap.lt_size ho))).trans ((Heap.get?_update_ne _ _ _ _ hb).trans (Heap.get?_push_of_some _ ho))
/-- a further field -/
theorem store_next {name : Str} {tk : Tok} {v : Value} {x dx : Addr} {fv : Array Value} {m0 : Str → Option Value} {nl : List Str} (O : Over K C bmB cd) (X : K.In hp) (hx : hp.get? x = some { cls := .ref C, dict := some dx, data := .fields fv })
    (hns : hp.Ns1 dx m0) (hw : Within m0 nl) (hz : nl.length ≤ 1000) (ha : W.findIn K (.ref C) name = some none)
    (hq : ∀ h' tk', (∀ b o, b ≠ dx → hp.get? b = some o → h'.get? b = some o) → h'.Ns1 dx (fun y => if y = name then some v else m0 y) → R (.ok (.ret .none)) ⟨h', g, d, tk', os⟩) :
    codeAny (model prog w) A (.call (.builtin "object.__setattr__") ⟨[.ref x, .str name tk, v], []⟩) R ⟨hp, g, d, t, os⟩ := by
  obtain ⟨oD, esD, epD, hoD, hdD, _⟩ := hns.count hw
  refine osa_way O X (ox := { cls := .ref C, dict := some dx, data := .fields fv }) (od := some oD) ⟨hx, rfl, rfl, hoD⟩ ha ?_
  have hc : W.Looks (model prog w) hp (classData C) cd := W.looks_clsIn X O.cls
  have hh := O.dic
  obtain ⟨nm, bs, mro, ns, qn, hd, sn, sb, ab, col, del⟩ := cd
  dsimp only at hh
  subst hh
  unfold storeInOwnDict ownDictForStores
  repeat (first
    | with_reducible refine PySem.OEX.store_in_old hns hw hz ?_
    | with_reducible refine wpAny_loadPart_at hx ?_
    | with_reducible refine hc.at ?_
    | wp_step)
  exact fun h' tk' hn' hs => hq h' tk' (fun b o hb ho => (hs.2 b hb).trans ho) hn'
end
end DLX
end PySem

set_option Elab.async false
set_option linter.all false
set_option autoImplicit false
set_option maxRecDepth 100000
/-! DL, part z: an own exception is made by its class: its __init__ stores each parameter under its own name. -/
namespace PySem
namespace DLX
open PySem.W PySem.Calls PyProof.Rows PySem.HandSPX

abbrev Fld := Str × Pos × Pos × Pos × Pos
/-- self.f = f -/
def stOf (x : Fld) : Stmt := .Assign [.Attribute (.Name "self" x.2.1) x.1 x.2.2.1] (.Name x.1 x.2.2.2.1) x.2.2.2.2
def mOf (val : Str → Value) (ns : List Str) : Str → Option Value := fun y => if y ∈ ns then some (val y) else none
theorem mOf_cons (val : Str → Value) (f : Str) (ns : List Str) : (fun y => if y = f then some (val f) else mOf val ns y) = mOf val (f :: ns) := by
  funext y
  unfold mOf
  by_cases h : y = f
  · subst h
    simp
  · simp [h]
theorem mOf_within (val : Str → Value) (ns : List Str) : Within (mOf val ns) ns := fun y hy => by
  unfold mOf at hy
  split at hy
  · assumption
  · exact absurd rfl hy
/-- what the text says of the class at C -/
structure XCls (K : W.Frag) (C : Addr) : Prop where
  ov : ∃ bmB cd, Over K C bmB cd
  new : ∃ B newId initId bmB, ExcBaseFacts B newId initId bmB ∧ excInitIn K C bmB newId = true
  sa : findIn K (.ref C) "__setattr__" = some (some (.builtin "object.__setattr__"))
section
variable {prog : Program} {w : World} {A : Around} {E : Value → Shared → Prop} {R : Result → Shared → Prop} {K : Frag} {C x L : Addr} {env : Env} {m : Str → Option Value} {val : Str → Value} {fv : Array Value}
/-- the stores behind the first one -/
theorem run_rest (T : XCls K C) (hk : env.scope.kind = .function) (hL : env.locals = L) (hs : env.kindOf "self" = some .local) (ms : m "self" = some (.ref x)) (xL : x ≠ L) : ∀ (fl : List Fld) (s : Shared) (dx : Addr) (ns : List Str) (Q : Flow → Shared → Prop),
    (∀ y ∈ fl, env.kindOf y.1 = some .local ∧ m y.1 = some (val y.1) ∧ (y.1 == ("__debug__" : Str)) = false ∧ findIn K (.ref C) y.1 = some none) → K.In s.heap → s.heap.Ns L m → s.heap.get? x = some { cls := .ref C, dict := some dx, data := .fields fv } → dx ≠ x → dx ≠ L → s.heap.Ns1 dx (mOf val ns) → ns.length + fl.length ≤ 900 →
    (∀ a o, K.lookup a = some o → a ≠ dx) →
    (∀ h' tk, (∀ b o, b ≠ dx → s.heap.get? b = some o → h'.get? b = some o) → h'.Ns1 dx (mOf val ((fl.map (·.1)).reverse ++ ns)) → Q .next { s with heap := h', toks := tk }) →
    wpAny (model prog w) A (execs (fl.map stOf) env) Q E s
  | [], s, dx, ns, Q, _, _, _, _, _, _, hn, _, _, hq => wpAny_execs_nil (hq s.heap s.toks (fun _ _ _ e => e) hn)
  | y :: r, s, dx, ns, Q, hf, X, hN, hx, dnx, dnL, hn, hl, kd, hq => by
    obtain ⟨bmB, cd, O⟩ := T.ov
    obtain ⟨f1, f2, f3, f4⟩ := hf y List.mem_cons_self
    have hN' : s.heap.Ns env.locals m := by rw [hL]; exact hN
    refine wpAny_execs_cons (plainObj_wpAny_Assign_Attribute ?_)
    refine wpAny_Name (wpAny_loadName_local hk f1 hN' f2 (wpAny_Name (wpAny_loadName_local hk hs hN' ms ?_) (by decide))) f3
    obtain ⟨oD, _, _, hoD, _, _⟩ := hn.count (mOf_within val ns)
    refine set_plain X (ox := { cls := .ref C, dict := some dx, data := .fields fv }) (od := some oD) ⟨hx, rfl, rfl, hoD⟩ T.sa ?_
    obtain ⟨hp, g, d, t, os⟩ := s
    refine store_next O X hx hn (mOf_within val ns) (by omega) f4 fun h' tk' kk hn' => ?_
    rw [mOf_cons] at hn'
    have X' : K.In h' := fun a o e => kk a o (kd a o e) (X a o e)
    refine run_rest T hk hL hs ms xL r ⟨h', g, d, tk', os⟩ dx (y.1 :: ns) Q (fun z hz => hf z (List.mem_cons_of_mem _ hz)) X' (hN.at fun o e => kk L o (Ne.symm dnL) e) (kk x _ (Ne.symm dnx) hx) dnx dnL hn' (by rw [List.length_cons] at hl ⊢; omega) kd fun h2 tk2 k2 n2 => ?_
    refine hq h2 tk2 (fun b o hb e => k2 b o hb (kk b o hb e)) ?_
    rw [List.map_cons, List.reverse_cons, List.append_assoc]
    exact n2
/-- what __init__ leaves of a fresh exception at x -/
structure InitEnd (h h' : Heap) (x C dx t1 : Addr) (mm : Str → Option Value) : Prop where
  keep : ∀ b o, b ≠ x → h.get? b = some o → h'.get? b = some o
  obj : h'.get? x = some { cls := .ref C, dict := some dx, data := .fields #[.ref t1, .none, .none, .none, .bool false, .none] }
  dbig : h.objs.size ≤ dx
  dne : dx ≠ x
  ns : h'.Ns1 dx mm
theorem init_n {s : Shared} {fI t0 : Addr} {name qual : Str} {params : Arguments} {scope : Scope} {dV kV doc pm cdv ct oc : Value} {an od : Option Addr} {osl : Array (Option Value)} {y : Fld} {fl : List Fld} {args : Args} {binds : List (Str × Value)} (T : XCls K C)
    (lk : K.lookup fI = some ⟨oc, od, .func (fnOf name qual params ((y :: fl).map stOf) scope dV kV doc pm an cdv ct), osl⟩) (hcd : codeIn K cdv qual = true) (hk : scope.kind = .function) (hco : scope.isCoroutine = false) (hge : scope.isGenerator = false)
    (hb : BindsTo s (fnOf name qual params ((y :: fl).map stOf) scope dV kV doc pm an cdv ct) args binds) (hkd : (binds.all fun z => scope.names.lookup z.1 == some .local || scope.names.lookup z.1 == some .cell) = true)
    (hs : scope.names.lookup ("self" : Str) = some .local) (ms : bindL (fun z => scope.names.lookup z) binds (fun _ => none) "self" = some (.ref x))
    (hf : ∀ z ∈ y :: fl, scope.names.lookup z.1 = some .local ∧ bindL (fun z => scope.names.lookup z) binds (fun _ => none) z.1 = some (val z.1) ∧ (z.1 == ("__debug__" : Str)) = false ∧ findIn K (.ref C) z.1 = some none) (hl : fl.length ≤ 800)
    (X : K.In s.heap) (lim : s.heap.NoLimit) (hx : s.heap.get? x = some (excO C t0)) (hnx : K.lookup x = none) (hroom : A.depth < recursionLimit)
    (hq : ∀ h' tk dx, InitEnd s.heap h' x C dx t0 (mOf val ((fl.map (·.1)).reverse ++ [y.1])) → R (.ok (.ret .none)) { s with heap := h', toks := tk }) :
    codeAny (model prog w) A (.call (.ref fI) args) R s := by
  refine Att.call_fn X lim lk hcd hroom hb hkd (fun s1 IC => ?_) hco hge hk
  obtain ⟨h1, tk1, rfl⟩ := IC.toInCall.same
  have kp : ∀ b o, s.heap.get? b = some o → h1.get? b = some o := IC.toInCall.keep
  have hN := IC.toInCall.ns
  have X1 : K.In h1 := X.keeps kp
  have hx1 := kp _ _ hx
  have xL : x ≠ s.heap.objs.size := Nat.ne_of_lt (Heap.lt_size hx)
  obtain ⟨bmB, cd, O⟩ := T.ov
  obtain ⟨f1, f2, f3, f4⟩ := hf y List.mem_cons_self
  show wpAny _ _ (execs (stOf y :: fl.map stOf) _) _ _ _
  refine wpAny_execs_cons (plainObj_wpAny_Assign_Attribute ?_)
  refine wpAny_Name (wpAny_loadName_local hk f1 hN f2 (wpAny_Name (wpAny_loadName_local hk hs hN ms ?_) (by decide))) f3
  refine set_plain X1 (ox := excO C t0) (od := none) ⟨hx1, rfl, rfl, trivial⟩ T.sa ?_
  refine store_first O X1 hx1 f4 fun h3 tk3 dx k3 dn dne hx3 hn3 => ?_
  have e0 : (fun z => if z = y.1 then some (val y.1) else none) = mOf val [y.1] := by
    have := mOf_cons val y.1 []
    simpa [mOf] using this
  rw [e0] at hn3
  have zL : s.heap.objs.size < h1.objs.size := hN.lt
  have dL : dx ≠ s.heap.objs.size := Nat.ne_of_gt (Nat.lt_of_lt_of_le zL dn)
  have kx : ∀ a o, K.lookup a = some o → a ≠ x := fun a o e z => by
    rw [z, hnx] at e
    cases e
  have kdx : ∀ a o, K.lookup a = some o → a ≠ dx := fun a o e => Nat.ne_of_lt (Nat.lt_of_lt_of_le (Heap.lt_size (X1 a o e)) dn)
  have X3 : K.In h3 := fun a o e => k3 a o (kx a o e) (X1 a o e)
  refine run_rest (env := envOfC qual scope s.heap.objs.size fI cdv) T hk rfl hs ms xL fl _ dx [y.1] _ (fun z hz => hf z (List.mem_cons_of_mem _ hz)) X3 (hN.at fun o e => k3 _ o (Ne.symm xL) e) hx3 dne dL hn3 (by rw [List.length_singleton]; omega) kdx fun h4 tk4 k4 n4 => ?_
  refine hq h4 tk4 dx ⟨fun b o hb e => k4 b o (fun z => ?_) (k3 b o hb (kp b o e)), k4 x _ (Ne.symm dne) hx3, Nat.le_of_lt (Nat.lt_of_lt_of_le zL dn), dne, n4⟩
  exact absurd (Nat.lt_of_lt_of_le (Heap.lt_size (kp b o e)) dn) (by rw [z]; exact Nat.lt_irrefl _)
/-- an own exception, made: at e, its dict at d -/
structure OwnMade (h h' : Heap) (e C d : Addr) (mm : Str → Option Value) : Prop where
  keep : ∀ b o, h.get? b = some o → h'.get? b = some o
  new : h.objs.size ≤ e
  obj : ∃ t1 : Addr, h'.get? e = some { cls := .ref C, dict := some d, data := .fields #[.ref t1, .none, .none, .none, .bool false, .none] }
  dbig : h.objs.size ≤ d
  dne : d ≠ e
  ns : h'.Ns1 d mm
theorem made_n {s : Shared} {fI : Addr} {name qual : Str} {params : Arguments} {scope : Scope} {dV kV doc pm cdv ct oc : Value} {an od : Option Addr} {osl : Array (Option Value)} {y : Fld} {fl : List Fld} {rest : List Value} {kw : List (Str × Value)} {bvs : List (Str × Value)} (T : XCls K C)
    (iC : findIn K (.ref C) "__init__" = some (some (.ref fI))) (tI : typeIn K (.ref fI) = some (.type "function"))
    (lk : K.lookup fI = some ⟨oc, od, .func (fnOf name qual params ((y :: fl).map stOf) scope dV kV doc pm an cdv ct), osl⟩) (hcd : codeIn K cdv qual = true) (hk : scope.kind = .function) (hco : scope.isCoroutine = false) (hge : scope.isGenerator = false)
    (hb : ∀ (s' : Shared) (x : Addr), K.In s'.heap → BindsTo s' (fnOf name qual params ((y :: fl).map stOf) scope dV kV doc pm an cdv ct) ⟨.ref x :: rest, kw⟩ (("self", .ref x) :: bvs))
    (hkd : (bvs.all fun z => scope.names.lookup z.1 == some .local || scope.names.lookup z.1 == some .cell) = true)
    (hs : scope.names.lookup ("self" : Str) = some .local) (ms : ∀ x : Addr, bindL (fun z => scope.names.lookup z) (("self", .ref x) :: bvs) (fun _ => none) "self" = some (.ref x))
    (hf : ∀ z ∈ y :: fl, scope.names.lookup z.1 = some .local ∧ (∀ x : Addr, bindL (fun z => scope.names.lookup z) (("self", .ref x) :: bvs) (fun _ => none) z.1 = some (val z.1)) ∧ (z.1 == ("__debug__" : Str)) = false ∧ findIn K (.ref C) z.1 = some none) (hl : fl.length ≤ 800)
    (hr : rest.length ≤ sizeLine) (X : K.In s.heap) (lim : s.heap.NoLimit) (hroom : A.depth + 1 < recursionLimit)
    (hq : ∀ h' tk e d, OwnMade s.heap h' e C d (mOf val ((fl.map (·.1)).reverse ++ [y.1])) → R (.ok (.ret (.ref e))) { s with heap := h', toks := tk }) :
    codeAny (model prog w) A (.call (.ref C) ⟨rest, kw⟩) R s := by
  obtain ⟨B, newId, initId, bmB, F, hin⟩ := T.new
  obtain ⟨nm, N, qn, bs, bm, hdct, sn, sub, ab, col, dd, k0, k1, k2, k3, k5, hC, hT⟩ := excInit_of X hin
  obtain ⟨hp, g, dr, tk, os⟩ := s
  have kp : ∀ b o, hp.get? b = some o → (twoO hp C rest).get? b = some o := fun b o e => Heap.get?_push_of_some _ (Heap.get?_push_of_some _ e)
  have ge : (twoO hp C rest).get? (hp.objs.size + 1) = some (excO C hp.objs.size) := by heap_get
  have nx : K.lookup (hp.objs.size + 1) = none := by
    cases e : K.lookup (hp.objs.size + 1) with
    | none => rfl
    | some o => exact absurd (Nat.lt_of_succ_lt (Heap.lt_size (X _ _ e))) (Nat.lt_irrefl _)
  refine call_kw F hT hC (looks_findIn X iC) (fun self => bind_fn X self tI) hr ?_
  refine init_n (s := ⟨twoO hp C rest, g, dr, tk, os⟩) T lk hcd hk hco hge (hb _ _ (X.keeps kp)) (by rw [List.all_cons, hkd, hs]; rfl) hs (ms _) (fun z hz => ⟨(hf z hz).1, (hf z hz).2.1 _, (hf z hz).2.2⟩) hl (X.keeps kp) (lim.keeps kp) ge nx ?_ fun h' tk' dx ⟨k', hx, dn, dne, hns⟩ => ?_
  · show A.depth + 1 < recursionLimit
    exact hroom
  · have z : hp.objs.size + 1 + 1 ≤ dx := by
      have q : (twoO hp C rest).objs.size ≤ dx := dn
      rw [Heap.size_push, Heap.size_push] at q
      exact q
    exact ⟨rfl, hq h' tk' (hp.objs.size + 1) dx ⟨fun b o e => k' b o (Nat.ne_of_lt (Nat.lt_succ_of_lt (Heap.lt_size e))) (kp b o e), Nat.le_succ _, ⟨_, hx⟩, Nat.le_trans (Nat.le_trans (Nat.le_succ _) (Nat.le_succ _)) z, dne, hns⟩⟩
end
end DLX
end PySem

set_option Elab.async false
set_option linter.all false
set_option autoImplicit false
set_option maxRecDepth 100000
/-! DL, part w: own exceptions as data: made, their fields, isinstance. -/
namespace DL
open PySem L2

/-- what isinstance and a field's look ask of an own exception's class -/
structure XIs (K : PySem.W.Frag) (C : Addr) : Prop where
  cl : (PySem.W.clsIn K C).isSome = true
  ga : PySem.W.findIn K (.ref C) "__getattribute__" = some (some (.builtin "BaseException.__getattribute__"))
  gt : PySem.W.findIn K (.ref C) "__getattr__" = some none
  ex : PySem.W.subIn K (.ref C) (.type "BaseException") = some true
  hd : PySem.W.hasDictIn K C = true
  ha : PySem.W.findIn K (.ref C) "__class__" = some (some (.builtin "object.__class__"))
  hn : PySem.W.specialIn K (.builtin "object.__class__") "__get__" = some (some (.builtin "getset_descriptor.__get__"))
  tk : PySem.W.takesIn K (.builtin "object.__class__") = some true
  hm : PySem.W.mroIn K C (.type "object") = some true
def xisB (K : PySem.W.Frag) (C : Addr) : Bool :=
  (PySem.W.clsIn K C).isSome && decide (PySem.W.findIn K (.ref C) "__getattribute__" = some (some (.builtin "BaseException.__getattribute__"))) && decide (PySem.W.findIn K (.ref C) "__getattr__" = some none) && decide (PySem.W.subIn K (.ref C) (.type "BaseException") = some true)
    && PySem.W.hasDictIn K C && decide (PySem.W.findIn K (.ref C) "__class__" = some (some (.builtin "object.__class__"))) && decide (PySem.W.specialIn K (.builtin "object.__class__") "__get__" = some (some (.builtin "getset_descriptor.__get__")))
    && decide (PySem.W.takesIn K (.builtin "object.__class__") = some true) && decide (PySem.W.mroIn K C (.type "object") = some true)
theorem xis_of {K : PySem.W.Frag} {C : Addr} (h : xisB K C = true) : XIs K C := by
  simp only [xisB, Bool.and_eq_true, decide_eq_true_eq] at h
  obtain ⟨⟨⟨⟨⟨⟨⟨⟨h1, h2⟩, h3⟩, h4⟩, h5⟩, h6⟩, h7⟩, h8⟩, h9⟩ := h
  exact ⟨h1, h2, h3, h4, h5, h6, h7, h8, h9⟩

section
variable {X : Cx} {c : Nat → Addr} {W : WX} {pins : List (Addr × Obj)} {σ : St} {H : Hp} {s : Shared}
/-- the object of an exception that is data -/
theorem exc_at {a C : Addr} {d : Option Addr} (I : Inv X pins σ H s) (h : H a = some (exo a C d)) : ∃ ox : Obj, s.heap.get? a = some ox ∧ ox.cls = .ref C ∧ ox.dict = d ∧ PySem.W.notCls ox = true := by
  obtain ⟨t1, e⟩ := exo_at I.hok h
  exact ⟨_, e, rfl, rfl, rfl⟩
/-! ### a field -/
/-- which classes know nothing of the name f -/
def NoF (K : PySem.W.Frag) (cl : Nat → Addr) (cs : List Nat) (f : Str) : Prop := ∀ k ∈ cs, XIs K (cl k) ∧ PySem.W.findIn K (.ref (cl k)) f = some none
def xfC (cs : List Nat) (f : Str) : D → Option D
  | .exc k fs => if k ∈ cs then fs.lookup f else none
  | _ => none
theorem de_xf {e : Expr} {pos : Pos} {f : Str} {δ : DenE} {cs : List Nat} (N : NoF X.K c cs f) (hb : attributeBase e f X.env (eval e X.env) = eval e X.env) (h : PE X e (rdE (tb X c) W δ)) : PE X (.Attribute e f pos) (rdE (tb X c) W (dUn (xfC cs f) δ)) := by
  refine ⟨fun pins s σ H Q I hq => ?_⟩
  obtain ⟨Z, ρ, μ, g, sl, h1⟩ := rd_then (R := Rep (tb X c)) (f := fun _ x μ1 => ofO (xfC cs f x) μ1) hq
  refine attr_of hb (thn (h.run pins s σ H _ I ⟨Z, ρ, μ, g, sl, h1⟩) fun u s1 ⟨x, H1, I1, rx, Z1, ρ1, dx, μ1, g1, s1', r1, q1⟩ => ?_)
  cases r1 with
  | @exc a dd k fs ds ha hd r =>
    simp only [xfC] at q1
    by_cases hk : k ∈ cs
    · rw [if_pos hk] at q1
      obtain ⟨T, hno⟩ := N k hk
      cases el : ds.lookup f with
      | none =>
        rw [el] at q1
        exact False.elim q1
      | some d =>
        rw [el] at q1
        obtain ⟨v, hv, rv⟩ := r.look el
        obtain rfl : u = Value.ref a := rx
        have hH := g1.sub _ _ ha
        have hD := g1.sub _ _ hd
        obtain ⟨ox, o1, o2, o3, o4⟩ := exc_at I1 hH
        obtain ⟨mA, hns, rel⟩ := exd_at I1.hok hD
        obtain ⟨od, e1, e2⟩ := lookIn_ns hns
        obtain ⟨u, hu, ru⟩ := RelO.some_of (v := v) (o := mA f) (by rw [← hv]; exact rel f)
        have J : PySem.W.InstAt s1.heap a ox (c k) (some od) := ⟨o1, o2, o4, by rw [o3]; exact e1⟩
        refine HandSPX.exc_get I1.kIn J T.ga T.gt T.ex (PySem.W.findObj_own T.hd hno rfl (by rw [e2, hu])) (handed_of ru) ?_
        exact ⟨v, H1, I1.tok _, ru, q1 Z1 H1 v Step.rfl g1 rv⟩
    · rw [if_neg hk] at q1
      exact False.elim q1
  | @exc0 a k ha =>
    simp only [xfC] at q1
    split at q1 <;> exact False.elim q1
  | _ => exact False.elim q1

/-! ### isinstance -/
structure ClsTab where
  own : Nat → Nat → Option Bool
  bas : Nat → String → Option Bool
def tyName (μ : Store) : D → Option String
  | .non => some "NoneType"
  | .bl _ => some "bool"
  | .int _ => some "int"
  | .str _ => some "str"
  | .lst _ => some "list"
  | .tup _ => some "tuple"
  | .dic _ => some "dict"
  | .loc n => match μ[n]? with
    | some (some (.lst _)) => some "list"
    | some (some (.dic _)) => some "dict"
    | _ => none
  | _ => none
end
def isXB (τ : ClsTab) : OpN := fun ds μ => (match ds with
  | [.exc k _, .cls k'] => τ.own k k'
  | [.exc k _, .ty n] => τ.bas k n
  | _ => none : Option Bool).map .bl
/-- the table says what the text says, for the exceptions' classes cs -/
structure TabX (K : PySem.W.Frag) (cl : Nat → Addr) (τ : ClsTab) : Prop where
  own : ∀ k k' b, τ.own k k' = some b → XIs K (cl k) ∧ PySem.W.kitOne K (.ref (cl k)) (.ref (cl k')) = some b
  bas : ∀ k n b, τ.bas k n = some b → XIs K (cl k) ∧ PySem.W.kitOne K (.ref (cl k)) (.type n) = some b
section
variable {X : Cx} {c : Nat → Addr}
theorem c_isX {τ : ClsTab} (O : TabX X.K c τ) : CallR X (.builtin "isinstance") (rdC (tb X c) (isXB τ)) := by
  intro pins s σ H vs us Q I r h
  obtain ⟨Z, μ, ds, d, g, rd, e, q⟩ := h
  have core : ∀ {a : Addr} {k : Nat} {dd : Option Addr} {cv : Value} {b : Bool}, H a = some (exo a (c k) dd) → (∀ dx, dd = some dx → ∃ fs, H dx = some (exd dx fs)) → XIs X.K (c k) → PySem.W.kitOne X.K (.ref (c k)) cv = some b → (∀ tk, EP X pins σ Q (.bool b) { s with toks := tk }) →
      wpAny (model X.prog X.w) X.A (call (.builtin "isinstance") [.ref a, cv]) (EP X pins σ Q) X.xe s := by
    intro a k dd cv b hH hdd T hk hq
    obtain ⟨ox, o1, o2, o3, o4⟩ := exc_at I hH
    cases dd with
    | none =>
      have J : PySem.W.InstAt s.heap a ox (c k) none := ⟨o1, o2, o4, by rw [o3]; exact trivial⟩
      exact PySem.W.kia_one (PySem.W.kitx_exc T.cl T.ga T.gt T.ex T.ha T.hn T.tk T.hm) I.kIn J hk (fun z => nomatch z) hq
    | some dx =>
      obtain ⟨fs, hD⟩ := hdd dx rfl
      obtain ⟨mA, hns, rel⟩ := exd_at I.hok hD
      obtain ⟨od, e1, e2⟩ := lookIn_ns hns
      have J : PySem.W.InstAt s.heap a ox (c k) (some od) := ⟨o1, o2, o4, by rw [o3]; exact e1⟩
      exact PySem.W.kia_one (PySem.W.kitx_exc T.cl T.ga T.gt T.ex T.ha T.hn T.tk T.hm) I.kIn J hk (fun z => nomatch z) hq
  have both : ∀ {k : Nat} {fs : List (Str × D)} {v : V} {u cv : Value} {b : Bool}, Rep (tb X c) Z (.exc k fs) v → RelV v u → XIs X.K (c k) → PySem.W.kitOne X.K (.ref (c k)) cv = some b → Rep (tb X c) Z d (.bl b) →
      wpAny (model X.prog X.w) X.A (call (.builtin "isinstance") [u, cv]) (EP X pins σ Q) X.xe s := by
    intro k fs v u cv b r1 ru T hk rb
    have fin : ∀ tk, EP X pins σ Q (.bool b) { s with toks := tk } := fun tk => ⟨.bl b, H, I.tok tk, rfl, q Z H _ Step.rfl g rb⟩
    cases r1 with
    | @exc a dx k fs ds ha hd r =>
      obtain rfl : u = Value.ref a := ru
      exact core (g.sub _ _ ha) (fun dx' e' => by cases e'; exact ⟨_, g.sub _ _ hd⟩) T hk fin
    | @exc0 a k ha =>
      obtain rfl : u = Value.ref a := ru
      exact core (g.sub _ _ ha) (fun dx' e' => by cases e') T hk fin
  simp only [isXB] at e
  split at e
  · rename_i k fs k'
    cases hb : τ.own k k' with
    | none => rw [hb] at e; cases e
    | some b =>
      rw [hb] at e
      cases e
      obtain ⟨T, hk⟩ := O.own k k' b hb
      cases rd with
      | cons r1 rd =>
        cases rd with
        | cons r2 rd =>
          cases rd
          cases r2
          cases r with
          | cons u1 r =>
            cases r with
            | cons u2 r =>
              cases r
              cases u2
              exact both r1 u1 T hk (.bl b)
  · rename_i k fs n
    cases hb : τ.bas k n with
    | none => rw [hb] at e; cases e
    | some b =>
      rw [hb] at e
      cases e
      obtain ⟨T, hk⟩ := O.bas k n b hb
      cases rd with
      | cons r1 rd =>
        cases rd with
        | cons r2 rd =>
          cases rd
          cases r2
          cases r with
          | cons u1 r =>
            cases r with
            | cons u2 r =>
              cases r
              cases u2
              exact both r1 u1 T hk (.bl b)
  · cases e
end

/-! ### made -/
/-- the class at cl k, its __init__ and what it makes of its arguments: np by place, then those of the names ks; ps: the fields, in the sequence of the parameters -/
structure XMk (K : PySem.W.Frag) (cl : Nat → Addr) (k : Nat) (ps ks : List Str) (np : Nat) (g : List D → List D → List D) : Prop where
  kp : PySem.W.keepIn K (.ref (cl k)) = true
  run : ∀ {prog : Program} {w : World} {A : Around} {R : Result → Shared → Prop} {s : Shared} (us ws : List Value), K.In s.heap → s.heap.NoLimit → A.depth + 1 < recursionLimit → us.length = np → ws.length = ks.length →
    (∀ h' tk e d bs, bs.length = ps.length → (∀ vs zs, Vals vs us → Vals zs ws → ∃ bv, Vals bv bs ∧ ∀ T Z ds es, Reps T Z ds vs → Reps T Z es zs → Reps T Z (g ds es) bv) →
      PySem.DLX.OwnMade s.heap h' e (cl k) d (fun y => (ps.zip bs).reverse.lookup y) → R (.ok (.ret (.ref e))) { s with heap := h', toks := tk }) →
    codeAny (model prog w) A (.call (.ref (cl k)) ⟨us, ks.zip ws⟩) R s
def dExc (k np nk : Nat) (ps : List Str) (g : List D → List D → List D) (δs δk : DenA) : DenE := fun ρ μ => (δs ρ μ).bind fun ds μ1 => (δk ρ μ1).bind fun zs μ2 => if ds.length = np ∧ zs.length = nk then .ok (.exc k (ps.zip (g ds zs)).reverse) μ2 else .bad
theorem repF_zip {T : Tab} {Z : Wd} : ∀ {ps : List Str} {ds : List D} {vs : List V}, Reps T Z ds vs → RepF T Z (ps.zip ds) (ps.zip vs)
  | [], _, _, _ => .nil
  | _ :: _, _, _, .nil => .nil
  | p :: ps, _, _, .cons h r => .cons h (repF_zip r)
theorem RepF.append {T : Tab} {Z : Wd} : ∀ {a b : List (Str × D)} {v w : List (Str × V)}, RepF T Z a v → RepF T Z b w → RepF T Z (a ++ b) (v ++ w)
  | _, _, _, _, .nil, h => h
  | _, _, _, _, .cons h r, q => .cons h (RepF.append r q)
theorem RepF.reverse {T : Tab} {Z : Wd} : ∀ {a : List (Str × D)} {v : List (Str × V)}, RepF T Z a v → RepF T Z a.reverse v.reverse
  | _, _, .nil => .nil
  | _, _, .cons h r => by
    rw [List.reverse_cons, List.reverse_cons]
    exact RepF.append (RepF.reverse r) (.cons h .nil)
theorem relO_zip (f : Str) : ∀ {ps : List Str} {vs : List V} {us : List Value}, Vals vs us → RelO ((ps.zip vs).lookup f) ((ps.zip us).lookup f)
  | [], _, _, _ => trivial
  | _ :: _, _, _, .nil => trivial
  | p :: ps, _, _, .cons h r => by
    rw [List.zip_cons_cons, List.zip_cons_cons, List.lookup_cons, List.lookup_cons]
    cases f == p with
    | true => exact h
    | false => exact relO_zip f r
theorem zip_app {α β : Type} : ∀ {a : List α} {b : List β} {x : α} {y : β}, a.length = b.length → (a ++ [x]).zip (b ++ [y]) = a.zip b ++ [(x, y)]
  | [], [], _, _, _ => rfl
  | [], _ :: _, _, _, h => by simp at h
  | _ :: _, [], _, _, h => by simp at h
  | a :: as, b :: bs, x, y, h => by
    rw [List.cons_append, List.cons_append, List.zip_cons_cons, List.zip_cons_cons, zip_app (by simpa using h)]
    rfl
theorem zip_rev {α β : Type} : ∀ {a : List α} {b : List β}, a.length = b.length → (a.zip b).reverse = a.reverse.zip b.reverse
  | [], [], _ => rfl
  | [], _ :: _, h => by simp at h
  | _ :: _, [], h => by simp at h
  | a :: as, b :: bs, h => by
    have h' : as.length = bs.length := by simpa using h
    rw [List.zip_cons_cons, List.reverse_cons, List.reverse_cons, List.reverse_cons, zip_rev h', zip_app (by simp [h'])]
theorem vals_rev : ∀ {vs : List V} {us : List Value}, Vals vs us → Vals vs.reverse us.reverse
  | _, _, .nil => .nil
  | _, _, .cons h r => by
    rw [List.reverse_cons, List.reverse_cons]
    exact Vals.append (vals_rev r) (.cons h .nil)
section
variable {X : Cx} {c : Nat → Addr} {W : WX} {pos p : Pos} {x : Str} {es : List Expr} {kws : List Keyword} {δs δk : DenA} {k np j : Nat} {ps : List Str} {g : List D → List D → List D}
theorem de_exc (M : XMk X.K c k ps (kwNames kws) np g) (hr : Room j X.A) (hg : Gl X x) (hm : X.mg x = some (.ref (c k))) (hdb : (x == ("__debug__" : Str)) = false) (hnil : es = [] → δs = dNil) (hst : es.all notStar = true) (hkn : kws.all (·.arg.isSome) = true)
    (ha : PA X es (rdA (tb X c) W δs)) (hkw : PK X kws (rdA (tb X c) W δk)) : PE X (.Call (.Name x p) es kws pos) (rdE (tb X c) W (dExc k np (kwNames kws).length ps g δs δk)) := by
  refine ⟨fun pins s σ H Q I h => ?_⟩
  refine wpAny_Call_Name_kw (ld_glob I hg hm ?_ hdb)
  refine args_run M.kp hnil hst hkn ha hkw I (f := fun ds zs μ2 => if ds.length = np ∧ zs.length = (kwNames kws).length then Res.ok (D.exc k (ps.zip (g ds zs)).reverse) μ2 else .bad) h fun us ws s1 vs zs H1 Z ρ μ ds es' I1 r1 rz gd sl rd rk q => ?_
  by_cases hl : ds.length = np ∧ es'.length = (kwNames kws).length
  · rw [if_pos hl] at q
    have lim := I1.nolimit
    refine wpAny_call (M.run us ws I1.kIn lim (by have := hr.dp; omega) (by rw [← r1.length, ← rd.length]; exact hl.1) (by rw [← rz.length, ← rk.length]; exact hl.2) fun h' tk e d bs hbl hbs OM => ?_)
    obtain ⟨bv, b1, b2⟩ := hbs vs zs r1 rz
    have rg := b2 (tb X c) Z ds es' rd rk
    obtain ⟨hp, gs, dr, tk0, os⟩ := s1
    obtain ⟨t1, hoe⟩ := OM.obj
    -- the heap without the exception itself
    obtain ⟨G', g1, g2⟩ := restrict h' fun b => decide (b ≠ e)
    have gk : ∀ b, b ≠ e → G'.get? b = h'.get? b := fun b hb => g1 b (decide_eq_true hb)
    have ge : G'.get? e = none := g2 e (by simp)
    have old : ∀ b o, hp.get? b = some o → G'.get? b = some o := fun b o z => (gk b (Nat.ne_of_lt (Nat.lt_of_lt_of_le (Heap.lt_size z) OM.new))).trans (OM.keep b o z)
    have nd : H1 d = none := I1.hok.fresh OM.dbig
    have ne : H1 e = none := I1.hok.fresh OM.new
    have hrel : ∀ y, RelO ((ps.zip bv).reverse.lookup y) ((ps.zip bs).reverse.lookup y) := fun y => by
      rw [zip_rev (by rw [b1.length, hbl]), zip_rev hbl.symm]
      exact relO_zip y (vals_rev b1)
    have J1 : Inv X pins σ (upd H1 d (exd d (ps.zip bv).reverse)) ⟨G', gs, dr, tk, os⟩ := I1.laid (t' := tk) old OM.dbig (exd_ok (OM.ns.at fun o z => (gk d OM.dne).trans z) hrel)
    have ne' : upd H1 d (exd d (ps.zip bv).reverse) e = none := by
      rw [upd_ne (Ne.symm OM.dne)]
      exact ne
    have J2 : Inv X pins σ (upd (upd H1 d (exd d (ps.zip bv).reverse)) e (exo e (c k) (some d))) ⟨h', gs, dr, tk, os⟩ := Inv.laidN (t' := tk) J1 (fun b o z => by
      by_cases hb : b = e
      · have z' : G'.get? b = some o := z
        rw [hb, ge] at z'
        cases z'
      · exact (gk b hb).symm.trans z) ge ne' (exo_ok hoe)
    have gd1 := gd.add (exd d (ps.zip bv).reverse) nd
    have gd2 := gd1.add (exo e (c k) (some d)) ne'
    have st1 : Step Z H1 (Z.add d (exd d (ps.zip bv).reverse)) (upd H1 d (exd d (ps.zip bv).reverse)) := Step.add gd nd
    have st2 := st1.trans (Step.add (o := exo e (c k) (some d)) gd1 ne')
    refine ⟨.ref e, _, J2, rfl, q _ _ _ st2 gd2 (.exc upd_same ?_ ((repF_zip rg).reverse.mono st2.le))⟩
    show upd (upd Z.g d _) e _ d = _
    rw [upd_ne OM.dne, upd_same]
  · rw [if_neg hl] at q
    exact False.elim q
end
end DL

set_option Elab.async false
set_option linter.all false
set_option autoImplicit false
set_option maxRecDepth 100000
/-! DL, part v: classes of exceptions, from the text; errors without fields; repr; enumerate; further calls. -/
namespace DL
open PySem L2 PySem.DLX

theorem lookup_zip {β : Type} : ∀ (l : List Str) (b : List β), b.length = l.length → ∀ f ∈ l, ∃ v, (l.zip b).lookup f = some v
  | [], _, _, f, hf => by cases hf
  | p :: l, [], hb, f, hf => by simp at hb
  | p :: l, v :: b, hb, f, hf => by
    rw [List.zip_cons_cons, List.lookup_cons]
    cases e : f == p with
    | true => exact ⟨v, rfl⟩
    | false =>
      rcases List.mem_cons.mp hf with q | q
      · rw [q] at e
        simp at e
      · exact lookup_zip l b (by simpa using hb) f q
theorem lookup_out {β : Type} (f : Str) : ∀ (l : List Str) (b : List β), f ∉ l → (l.zip b).lookup f = none
  | [], _, _ => rfl
  | _ :: _, [], _ => rfl
  | p :: l, v :: b, h => by
    have e : (f == p) = false := by
      rw [beq_eq_false_iff_ne]
      exact fun z => h (by rw [z]; exact List.mem_cons_self)
    rw [List.zip_cons_cons, List.lookup_cons, e]
    exact lookup_out f l b fun z => h (List.mem_cons_of_mem _ z)
theorem lookup_rev {β : Type} (f : Str) : ∀ (l : List Str) (b : List β), l.Nodup → b.length = l.length → (l.zip b).reverse.lookup f = (l.zip b).lookup f
  | [], _, _, _ => rfl
  | _ :: _, [], _, hb => by simp at hb
  | p :: l, v :: b, hn, hb => by
    have hb' : b.length = l.length := by simpa using hb
    have hn' := List.nodup_cons.mp hn
    have e0 : List.lookup f [(p, v)] = if (f == p) = true then some v else none := by
      rw [List.lookup_cons]
      cases f == p <;> rfl
    have e1 : List.lookup f ((p, v) :: l.zip b) = if (f == p) = true then some v else (l.zip b).lookup f := by
      rw [List.lookup_cons]
      cases f == p <;> rfl
    rw [List.zip_cons_cons, List.reverse_cons, List.lookup_append, lookup_rev f l b hn'.2 hb', e0, e1]
    cases e : f == p with
    | true =>
      have ef : f = p := by simpa using e
      rw [lookup_out f l b (by rw [ef]; exact hn'.1)]
      rfl
    | false =>
      cases (l.zip b).lookup f <;> rfl
/-- XMk of a class whose __init__ stores its parameters ps -/
theorem xmk {K : PySem.W.Frag} {cl : Nat → Addr} {k np : Nat} {ps ks : List Str} {g : List D → List D → List D} {gv : List Value → List Value → List Value} {gV : List V → List V → List V} {fI : Addr} {name qual : Str} {params : Arguments} {scope : Scope} {dV kV doc pm cdv ct oc : Value} {an od : Option Addr}
    {osl : Array (Option Value)} {y : Fld} {fl : List Fld} (T : XCls K (cl k)) (kp : PySem.W.keepIn K (.ref (cl k)) = true) (iC : PySem.W.findIn K (.ref (cl k)) "__init__" = some (some (.ref fI))) (tI : PySem.W.typeIn K (.ref fI) = some (.type "function"))
    (lk : K.lookup fI = some ⟨oc, od, .func (PySem.W.fnOf name qual params ((y :: fl).map stOf) scope dV kV doc pm an cdv ct), osl⟩) (hcd : PySem.W.codeIn K cdv qual = true) (hk : scope.kind = .function) (hco : scope.isCoroutine = false) (hge : scope.isGenerator = false)
    (hps : ps = (y :: fl).map (·.1)) (nd : ps.Nodup) (hl : fl.length ≤ 800) (hnp : np ≤ 1000)
    (hb : ∀ (s : Shared) (x : Addr) (us ws : List Value), us.length = np → ws.length = ks.length → BindsTo s (PySem.W.fnOf name qual params ((y :: fl).map stOf) scope dV kV doc pm an cdv ct) ⟨.ref x :: us, ks.zip ws⟩ (("self", .ref x) :: ps.zip (gv us ws)) ∧ (gv us ws).length = ps.length)
    (hloc : (ps.all fun z => scope.names.lookup z == some .local) = true) (hs : scope.names.lookup ("self" : Str) = some .local)
    (hbl : ∀ (x : Addr) (bs : List Value), bs.length = ps.length → bindL (fun z => scope.names.lookup z) (("self", .ref x) :: ps.zip bs) (fun _ => none) "self" = some (.ref x) ∧ ∀ f ∈ ps, bindL (fun z => scope.names.lookup z) (("self", .ref x) :: ps.zip bs) (fun _ => none) f = (ps.zip bs).lookup f)
    (hdb : (ps.all fun z => z != ("__debug__" : Str)) = true) (hno : ∀ f ∈ ps, PySem.W.findIn K (.ref (cl k)) f = some none)
    (hV : ∀ vs zs us ws, Vals vs us → Vals zs ws → us.length = np → ws.length = ks.length → Vals (gV vs zs) (gv us ws)) (hD : ∀ T Z ds es vs zs, Reps T Z ds vs → Reps T Z es zs → vs.length = np → zs.length = ks.length → Reps T Z (g ds es) (gV vs zs)) :
    XMk K cl k ps ks np g := by
  refine ⟨kp, fun {prog w A R s} us ws X lim hroom h1 h2 hq => ?_⟩
  obtain ⟨hbb, hgl⟩ := hb s 0 us ws h1 h2
  have look : ∀ f ∈ ps, ∃ v, (ps.zip (gv us ws)).lookup f = some v := by
    exact fun f hf => lookup_zip ps _ hgl f hf
  have e1 : (fl.map (·.1)).reverse ++ [y.1] = ps.reverse := by rw [hps, List.map_cons, List.reverse_cons]
  have e2 : mOf (fun f => ((ps.zip (gv us ws)).lookup f).getD .none) ps.reverse = fun f => (ps.zip (gv us ws)).reverse.lookup f := by
    funext f
    rw [lookup_rev f ps _ nd hgl]
    unfold mOf
    by_cases hf : f ∈ ps
    · rw [if_pos (List.mem_reverse.mpr hf)]
      obtain ⟨v, hv⟩ := look f hf
      dsimp only
      rw [hv]
      rfl
    · rw [if_neg (fun z => hf (List.mem_reverse.mp z))]
      exact (lookup_out f ps _ hf).symm
  refine made_n (val := fun f => ((ps.zip (gv us ws)).lookup f).getD .none) (bvs := ps.zip (gv us ws)) T iC tI lk hcd hk hco hge (fun s' x _ => (hb s' x us ws h1 h2).1) ?_ hs (fun x => (hbl x _ hgl).1) ?_ hl ?_ X lim hroom fun h' tk e d OM => ?_
  · rw [List.all_eq_true]
    intro z hz
    have hm : z.1 ∈ ps := (List.of_mem_zip (a := z.1) (b := z.2) hz).1
    rw [List.all_eq_true] at hloc
    rw [hloc _ hm]
    rfl
  · intro z hz
    have hm : z.1 ∈ ps := by rw [hps]; exact List.mem_map_of_mem hz
    rw [List.all_eq_true] at hloc hdb
    refine ⟨by simpa using hloc _ hm, fun x => ?_, by simpa using hdb _ hm, hno _ hm⟩
    rw [(hbl x _ hgl).2 _ hm]
    obtain ⟨v, hv⟩ := look _ hm
    rw [hv]
    rfl
  · rw [h1, sizeLine_eq]
    omega
  · refine hq h' tk e d (gv us ws) hgl (fun vs zs r1 r2 => ⟨gV vs zs, hV vs zs us ws r1 r2 h1 h2, fun T Z ds es q1 q2 => hD T Z ds es vs zs q1 q2 (by rw [r1.length]; exact h1) (by rw [r2.length]; exact h2)⟩) ?_
    rw [e1, e2] at OM
    exact OM

/-- an error without arguments, of a class without __init__ -/
structure XMk0 (K : PySem.W.Frag) (C : Addr) : Prop where
  kp : PySem.W.keepIn K (.ref C) = true
  new : ∃ B newId initId bmB, ExcBaseFacts B newId initId bmB ∧ PySem.W.excInitIn K C bmB newId = true ∧ PySem.W.findIn K (.ref C) "__init__" = some (some (.builtin initId))
def dExc0 (k : Nat) : DenE := fun _ μ => .ok (.exc k []) μ
section
variable {X : Cx} {c : Nat → Addr} {W : WX} {pos p : Pos} {x : Str} {k : Nat}
theorem de_exc0 (M : XMk0 X.K (c k)) (hg : Gl X x) (hm : X.mg x = some (.ref (c k))) (hdb : (x == ("__debug__" : Str)) = false) : PE X (.Call (.Name x p) [] [] pos) (rdE (tb X c) W (dExc0 k)) := by
  refine ⟨fun pins s σ H Q I ⟨Z, ρ, μ, gd, sl, q⟩ => ?_⟩
  refine wpAny_Call_Name_kw (ld_glob I hg hm (PySem.W.callWith_K0 I.kIn M.kp ?_) hdb)
  obtain ⟨B, newId, initId, bmB, F, hin, hi⟩ := M.new
  obtain ⟨nm, N, qn, bs, bm, hdct, sn, sub, ab, col, dd, k0, k1, k2, k3, k5, hC, hT⟩ := PySem.W.excInit_of I.kIn hin
  obtain ⟨hp, gs, dr, tk, os⟩ := s
  refine PySem.W.call_B F hT hC (PySem.W.looks_findIn I.kIn hi) (by rw [sizeLine_eq]; decide) fun h' kk he ht => ?_
  have na : H (hp.objs.size + 1) = none := I.hok.fresh (Nat.le_succ _)
  have J : Inv X pins σ (upd H (hp.objs.size + 1) (exo (hp.objs.size + 1) (c k) none)) ⟨h', gs, dr, tk, os⟩ := I.laid (t' := tk) kk (Nat.le_succ _) (exo_ok he)
  exact ⟨.ref (hp.objs.size + 1), _, J, rfl, q _ _ _ (Step.add gd na) (gd.add _ na) (.exc0 upd_same)⟩
end
end DL

set_option Elab.async false
set_option linter.all false
set_option autoImplicit false
set_option maxRecDepth 100000
/-! DL, part u: repr of data, enumerate, displays of dicts, list(range(..)). -/
namespace DL
open PySem L2

def keyPy : Key → PyData
  | .inl i => .int i
  | .inr x => .str x
mutual
def toPyR : D → Option PyData
  | .non => some .none
  | .bl b => some (.bool b)
  | .int i => some (.int i)
  | .str x => some (.str x)
  | .lst xs => (toPyRs xs).map .list
  | .tup xs => (toPyRs xs).map .tuple
  | .dic kvs => (toPyRk kvs).map .dict
  | _ => none
def toPyRs : List D → Option (List PyData)
  | [] => some []
  | x :: xs => match toPyR x, toPyRs xs with
    | some p, some ps => some (p :: ps)
    | _, _ => none
def toPyRk : List (Key × D) → Option (List (PyData × PyData))
  | [] => some []
  | (k, x) :: xs => match toPyR x, toPyRk xs with
    | some p, some ps => some ((keyPy k, p) :: ps)
    | _, _ => none
end
section
variable {X : Cx} {c : Nat → Addr} {pins : List (Addr × Obj)} {σ : St} {H : Hp} {s : Shared} {Z : Wd}
theorem rd_seq_ne {K : PySem.W.Frag} {a : Addr} {vs : List V} (h : SqT K H a vs) : (H a ≠ none) ∨ ∃ o, K.lookup a = some o := by
  rcases h with (h | ⟨o, h⟩) | ⟨o, _, _, h, _⟩
  · exact .inl (by rw [h]; simp)
  · exact .inl (by rw [h]; simp)
  · exact .inr ⟨o, h⟩
theorem keys_read {P : Program} {w : World} {h : Heap} : ∀ {es : List DictEntry} {kvs : List (Key × Value)}, Pairs (mixKind P w) es kvs → ReadsAll h (es.map (·.key)) (kvs.map fun kv => keyPy kv.1) []
  | _, _, .nil => .nil
  | _, _, .cons (e := e) (kv := kv) h1 _ r => by
    refine ReadsAll.cons (as := []) (bs := []) ?_ (keys_read r)
    rcases keyIs_shape h1 with ⟨i, t, e1, e2⟩ | ⟨x, t, e1, e2⟩
    · show Reads h e.key (keyPy kv.1) []
      rw [e1, e2]
      exact .int i t
    · show Reads h e.key (keyPy kv.1) []
      rw [e1, e2]
      exact .str x t
theorem pairs_vals {P : Program} {w : World} : ∀ {es : List DictEntry} {kvs : List (Key × Value)}, Pairs (mixKind P w) es kvs → es.map (·.val) = kvs.map (·.2)
  | _, _, .nil => rfl
  | _, _, .cons _ h2 r => by rw [List.map_cons, List.map_cons, h2, pairs_vals r]
theorem toPyRk_keys : ∀ {kds : List (Key × D)} {ps : List (PyData × PyData)}, toPyRk kds = some ps → ps.map (·.1) = kds.map fun kd => keyPy kd.1
  | [], _, e => by cases e; rfl
  | (k, x) :: r, ps, e => by
    simp only [toPyRk] at e
    split at e
    · rename_i p ps' e1 e2
      cases e
      rw [List.map_cons, List.map_cons, toPyRk_keys e2]
    · cases e
theorem repk_keys {T : Tab} : ∀ {kds : List (Key × D)} {kvs : List (Key × V)}, RepK T Z kds kvs → kds.map (·.1) = kvs.map (·.1)
  | _, _, .nil => rfl
  | _, _, .cons _ r => by rw [List.map_cons, List.map_cons, repk_keys r]
theorem kv_keys : ∀ {kvs : List (Key × V)} {vs : List (Key × Value)}, KV kvs vs → kvs.map (·.1) = vs.map (·.1)
  | _, _, .nil => rfl
  | _, _, .cons h r => by rw [List.map_cons, List.map_cons, h.1, kv_keys r]
theorem kv_vals : ∀ {kvs : List (Key × V)} {vs : List (Key × Value)}, KV kvs vs → Vals (kvs.map (·.2)) (vs.map (·.2))
  | _, _, .nil => .nil
  | _, _, .cons h r => .cons h.2 (kv_vals r)
mutual
/-- data that lies in the heap is read there, at addresses that are tracked or written -/
theorem Rep.reads (I : Inv X pins σ H s) (g : Same Z.g H) : ∀ {d : D} {v : V} {u : Value} {p : PyData}, Rep (tb X c) Z d v → RelV v u → toPyR d = some p → ∃ as, Reads s.heap u p as ∧ ∀ a ∈ as, (H a ≠ none ∨ ∃ o, X.K.lookup a = some o ∧ o.cls = .type "list")
  | _, _, _, _, .non, r, e => by cases e; cases r; exact ⟨_, .none, by simp⟩
  | _, _, _, _, .bl b, r, e => by cases e; cases r; exact ⟨_, .bool b, by simp⟩
  | _, _, _, _, .int i, r, e => by cases e; obtain ⟨t, rfl⟩ := r; exact ⟨_, .int i t, by simp⟩
  | _, _, _, _, .str x, r, e => by cases e; obtain ⟨t, rfl⟩ := r; exact ⟨_, .str x t, by simp⟩
  | _, _, _, _, .ty n, r, e => by cases e
  | .lst xs, _, _, _, .lst h q, r, e => by
    simp only [toPyR] at e
    cases w : toPyRs xs with
    | none => rw [w] at e; cases e
    | some ps =>
      rw [w] at e
      cases e
      cases r
      obtain ⟨its, rv, ⟨o, n, ho, hc, _, hd⟩, _⟩ := I.list (SqL.of (g _ _ h))
      obtain ⟨as, hr, ha⟩ := Reps.reads I g q rv w
      refine ⟨_, Reads.list ho hc hd hr, fun a ha' => ?_⟩
      rcases List.mem_cons.mp ha' with z | z
      · exact .inl (by rw [z, g _ _ h]; simp)
      · exact ha a z
  | _, _, _, _, .scr h q, r, e => by cases e
  | .tup xs, _, _, _, .tup h q, r, e => by
    simp only [toPyR] at e
    cases w : toPyRs xs with
    | none => rw [w] at e; cases e
    | some ps =>
      rw [w] at e
      cases e
      cases r
      obtain ⟨its, rv, ⟨o, ho, hc, n, hd⟩, _⟩ := I.tuple (Same.sqt g h)
      obtain ⟨as, hr, ha⟩ := Reps.reads I g q rv w
      exact ⟨_, Reads.tuple ho hc hd hr, ha⟩
  | .dic kds, _, _, _, .dic (a := a) h q, r, e => by
    simp only [toPyR] at e
    cases w : toPyRk kds with
    | none => rw [w] at e; cases e
    | some ps =>
      rw [w] at e
      cases e
      cases r
      obtain ⟨_, _, vs, kv, o, es, ep, ho, hc, hd, _, hp, _⟩ := (show ObjOk X.prog X.w H s.heap _ (.dK _) from I.hok _ _ (g _ _ h))
      have k1 : ReadsAll s.heap (es.toList.map (·.key)) (ps.map (·.1)) [] := by
        rw [toPyRk_keys w]
        have z := keys_read (h := s.heap) hp
        have e1 : (kds.map fun kd => keyPy kd.1) = vs.map fun kv => keyPy kv.1 := by
          have := (repk_keys q).trans (kv_keys kv)
          have := congrArg (List.map keyPy) this
          rw [List.map_map, List.map_map] at this
          exact this
        rw [e1]
        exact z
      obtain ⟨bs, hr, hb⟩ := RepK.reads I g q (kv_vals kv) w
      rw [← pairs_vals hp] at hr
      refine ⟨_, Reads.dict ho hc.1 hd k1 hr, fun a ha' => ?_⟩
      simp only [List.append_nil, List.mem_append, List.mem_singleton] at ha'
      rcases ha' with z | z
      · exact .inl (by rw [z, g _ _ h]; simp)
      · exact hb a z
  | _, _, _, _, .ins h q, r, e => by cases e
  | _, _, _, _, .exc h h' q, r, e => by cases e
  | _, _, _, _, .exc0 h, r, e => by cases e
  | _, _, _, _, .cls k, r, e => by cases e
  | _, _, _, _, .ref a, r, e => by cases e
  | _, _, _, _, .loc h, r, e => by cases e
theorem Reps.reads (I : Inv X pins σ H s) (g : Same Z.g H) : ∀ {d : List D} {v : List V} {u : List Value} {p : List PyData}, Reps (tb X c) Z d v → Vals v u → toPyRs d = some p → ∃ as, ReadsAll s.heap u p as ∧ ∀ a ∈ as, (H a ≠ none ∨ ∃ o, X.K.lookup a = some o ∧ o.cls = .type "list")
  | _, _, _, _, .nil, r, e => by cases e; cases r; exact ⟨_, .nil, by simp⟩
  | x :: xs, _, _, _, .cons h q, r, e => by
    simp only [toPyRs] at e
    split at e
    · rename_i p ps e1 e2
      cases e
      cases r with
      | cons r1 r2 =>
        obtain ⟨as, h1, h2⟩ := Rep.reads I g h r1 e1
        obtain ⟨bs, h3, h4⟩ := Reps.reads I g q r2 e2
        exact ⟨_, .cons h1 h3, fun a ha => (List.mem_append.mp ha).elim (h2 a) (h4 a)⟩
    · cases e
theorem RepK.reads (I : Inv X pins σ H s) (g : Same Z.g H) : ∀ {d : List (Key × D)} {v : List (Key × V)} {u : List Value} {p : List (PyData × PyData)}, RepK (tb X c) Z d v → Vals (v.map (·.2)) u → toPyRk d = some p → ∃ as, ReadsAll s.heap u (p.map (·.2)) as ∧ ∀ a ∈ as, (H a ≠ none ∨ ∃ o, X.K.lookup a = some o ∧ o.cls = .type "list")
  | _, _, _, _, .nil, r, e => by cases e; cases r; exact ⟨_, .nil, by simp⟩
  | (k, x) :: xs, _, _, _, .cons h q, r, e => by
    simp only [toPyRk] at e
    split at e
    · rename_i p ps e1 e2
      cases e
      cases r with
      | cons r1 r2 =>
        obtain ⟨as, h1, h2⟩ := Rep.reads I g h r1 e1
        obtain ⟨bs, h3, h4⟩ := RepK.reads I g q r2 e2
        exact ⟨_, .cons h1 h3, fun a ha => (List.mem_append.mp ha).elim (h2 a) (h4 a)⟩
    · cases e
end
end
/-- repr(x), x a list, tuple or dict of data -/
def reprB : OpN := fun ds μ => match ds with
  | [.lst xs] => rp (toPyR (.lst xs))
  | [.tup xs] => rp (toPyR (.tup xs))
  | [.dic xs] => rp (toPyR (.dic xs))
  | [.int i] => if i.natAbs.log2 < 1920 then some (.str (toString i)) else none
  | _ => none
where rp (o : Option PyData) : Option D := match o with
  | some p => if p.showable = true ∧ p.depth ≤ 100 ∧ p.shown.length ≤ sizeLine then some (.str p.shown) else none
  | none => none
theorem c_repr {X : Cx} {c : Nat → Addr} {j : Nat} (hG : X.A.guards = some []) (hr : Room j X.A) (hS : ∃ o, X.base.get? sysModules = some o) (hSK : ∀ o, X.K.lookup sysModules = some o → o.cls ≠ .type "list") : CallR X (.builtin "repr") (rdC (tb X c) reprB) := by
  intro pins s σ H vs us Q I r h
  obtain ⟨Z, μ, ds, d, g, rd, e, q⟩ := h
  have core : ∀ {x : D} {v : V} {u : Value} {a : Addr}, v = .ref a → Rep (tb X c) Z x v → RelV v u → reprB.rp (toPyR x) = some d → wpAny (model X.prog X.w) X.A (call (.builtin "repr") [u]) (EP X pins σ Q) X.xe s := by
    intro x v u a ev rx ru ex
    unfold reprB.rp at ex
    split at ex
    · rename_i p hp
      split at ex
      · rename_i hh
        cases ex
        obtain ⟨as, hread, hna⟩ := Rep.reads I g.sub rx ru hp
        have ns : sysModules ∉ as := fun hm => by
          obtain ⟨o, ho⟩ := hS
          have hn := (I.bs _ _ ho).2
          rcases hna _ hm with z | ⟨o', z, zc⟩
          · exact z hn
          · exact hSK _ z zc
        subst ev
        obtain rfl : u = Value.ref a := ru
        obtain ⟨hp', gs, dr, tk, os⟩ := s
        exact repr_of_reads' hread hh.1 (fun _ => ns) hG (by have := hr.un; omega) (fun _ _ z => z) (fun h' t tk' kk => ⟨.str _, H, I.kept (t' := tk') kk, ⟨_, rfl⟩, q Z H _ Step.rfl g (.str _)⟩) hh.2.2
      · cases ex
    · cases ex
  simp only [reprB] at e
  split at e
  · cases rd with
    | cons r1 rd =>
      cases rd
      cases r with
      | cons u1 r =>
        cases r
        cases r1 with
        | lst h q' => exact core rfl (.lst h q') u1 e
  · cases rd with
    | cons r1 rd =>
      cases rd
      cases r with
      | cons u1 r =>
        cases r
        cases r1 with
        | tup h q' => exact core rfl (.tup h q') u1 e
  · cases rd with
    | cons r1 rd =>
      cases rd
      cases r with
      | cons u1 r =>
        cases r
        cases r1 with
        | dic h q' => exact core rfl (.dic h q') u1 e
  · rename_i i
    split at e
    · rename_i hz
      cases e
      cases rd with
      | cons r1 rd =>
        cases rd
        cases r with
        | cons u1 r =>
          cases r
          cases r1
          obtain ⟨t, rfl⟩ := u1
          exact PySem.P.repr_of_int hz ⟨.str _, H, I.tok _, ⟨_, rfl⟩, q Z H _ Step.rfl g (.str _)⟩
    · cases e
  · cases e

/-! ### enumerate -/
def enumL (i : Nat) : List D → List D
  | [] => []
  | d :: ds => .tup [.int (i : Int), d] :: enumL (i + 1) ds
theorem enumL_len : ∀ (ds : List D) (i : Nat), (enumL i ds).length = ds.length
  | [], _ => rfl
  | d :: ds, i => by
    show (enumL (i + 1) ds).length + 1 = _
    rw [enumL_len ds (i + 1)]
    rfl
theorem enumL_get : ∀ (ds : List D) (i j : Nat) (d : D), ds[j]? = some d → (enumL i ds)[j]? = some (.tup [.int ((i + j : Nat) : Int), d])
  | [], _, _, _, e => by simp at e
  | d :: ds, i, 0, _, e => by
    simp at e
    subst e
    rfl
  | d :: ds, i, j + 1, d', e => by
    have := enumL_get ds (i + 1) j d' (by simpa using e)
    show (enumL (i + 1) ds)[j]? = _
    rw [this]
    have z : i + 1 + j = i + (j + 1) := by omega
    rw [z]
def iEnumD (δs : DenA) : DenI := fun ρ μ => (δs ρ μ).bind fun ds μ1 => match ds with
  | [.lst xs] => .ok (enumL 0 xs) μ1
  | _ => .bad
theorem ri_e {T : Tab} {Z : Wd} {ds : List D} {a : Addr} {vs : List V} (h : Z.g a = some (.lst vs)) (r : Reps T Z ds vs) : RI T Z (enumL 0 ds) (Ite T.K a) := fun Z' H μ i l g => by
  have q : SqL T.K H a vs := SqL.of (g.sub _ _ (l.g _ _ h))
  have rr := r.mono l
  rw [enumL_len]
  refine ⟨fun hi => ?_, fun hi => ⟨vs, q, by rw [← r.length]; exact hi⟩⟩
  obtain ⟨y, hy, ry⟩ := rr.get (List.getElem?_eq_getElem hi)
  refine ⟨⟨vs, y, q, hy⟩, fun x H' ⟨T', x', e1, e2, e3, w⟩ => ?_⟩
  subst e1
  subst e3
  have ex : x' = y := Option.some.inj ((w vs q).symm.trans hy)
  subst ex
  refine ⟨Z'.add T' (.tup [.int (i : Nat), x']), .tup [.int ((0 + i : Nat) : Int), ds[i]], Step.add g e2, g.add _ e2, enumL_get ds 0 i _ (List.getElem?_eq_getElem hi), ?_⟩
  rw [Nat.zero_add]
  exact .tup (SqT.of upd_same) (.cons (.int _) (.cons (ry.mono (Step.add (o := .tup [.int (i : Nat), x']) g e2).le) .nil))
theorem di_enum {X : Cx} {c : Nat → Addr} {W : WX} {e : Expr} {δs : DenA} {p pos tpos : Pos} {elts : List Expr} {kk : Nat} (hg : Gl X "enumerate") (hm : X.mg "enumerate" = none) (hs : notStar e = true) (ha : PA X [e] (rdA (tb X c) W δs)) :
    PI X (.Tuple elts kk tpos) (.Call (.Name "enumerate" p) [e] [] pos) (rdI (tb X c) W (iEnumD δs)) := by
  refine PI.imp (pi_enum hg hm ha (star_cons hs [] X.env)) fun σ H Q h => ?_
  obtain ⟨Z, ρ, μ, g, s, h1⟩ := rd_then (R := Reps (tb X c)) (f := fun _ ds μ1 => (match ds with
    | [.lst xs] => .ok (enumL 0 xs) μ1
    | _ => .bad : Res (List D))) h
  refine ⟨Z, ρ, μ, g, s, post_mono h1 fun vs H1 ⟨Z1, ρ1, ds, μ1, g1, s1, r, q1⟩ => ?_⟩
  split at q1
  · cases r with
    | cons r1 r2 =>
      cases r2
      cases r1 with
      | lst h q => exact ⟨_, _, rfl, SqL.of (g1.sub _ _ h), q1 Z1 H1 _ Step.rfl g1 (ri_e h q)⟩
  · exact False.elim q1

/-! ### {} and a dict of one pair -/
def dDic0 : DenE := fun _ μ => .ok (.dic []) μ
def keyOf : D → Option Key
  | .int i => some (.inl i)
  | .str x => some (.inr x)
  | _ => none
/-- {k: v}, both constants -/
def dDic1 (k : Key) (d : D) : DenE := fun _ μ => .ok (.dic [(k, d)]) μ
section
variable {X : Cx} {c : Nat → Addr} {W : WX} {pos : Pos}
theorem de_dic0 : PE X (.Dict [] [] pos) (rdE (tb X c) W dDic0) := by
  refine PE.imp pe_dnewK fun σ H Q ⟨Z, ρ, μ, g, s, q⟩ => ?_
  exact fun p hp => q _ _ _ (Step.add g hp) (g.add _ hp) (.dic upd_same .nil)
theorem de_dic1 {k v : Expr} {key : Key} {d : D} {y : V} (hk : PE X k (tC (kV key))) (hv : PE X v (tC y)) (r : ∀ Z, Rep (tb X c) Z d y) : PE X (.Dict [some k] [v] pos) (rdE (tb X c) W (dDic1 key d)) := by
  refine PE.imp (pe_disp (pps_cons hk hv pps_nil) rfl rfl (fun z => by cases z) (by show 1 ≤ 15; decide)) fun σ H Q ⟨Z, ρ, μ, g, s, q⟩ => ?_
  intro p hp
  refine ⟨upd_same, [(key, y)], rfl, by show 1 ≤ 15; decide, ?_⟩
  rw [upd_upd]
  exact q _ _ _ (Step.add (o := .dK (mergeK [] [(key, y)])) g hp) (g.add _ hp) (.dic upd_same (.cons (r _) .nil))
/-! ### list(range(..)) -/
def dLstRg1 (δ : DenE) : DenE := fun ρ μ => (δ ρ μ).bind fun d μ1 => match d with
  | .int n => if 0 ≤ n ∧ n ≤ 16777216 then .ok (.lst (intsD 0 n.toNat)) μ1 else .bad
  | _ => .bad
theorem rgV_reps {T : Tab} {Z : Wd} (n : Int) : Reps T Z (intsD 0 n.toNat) (rgV 0 n) := by
  have e : (n - 0).toNat = n.toNat := by simp
  unfold intsD rgV
  rw [e]
  have aux : ∀ l : List Nat, Reps T Z (l.map fun i => D.int (0 + (i : Nat))) (l.map fun i => V.int (0 + (i : Nat))) := by
    intro l
    induction l with
    | nil => exact .nil
    | cons i l ih => exact .cons (.int _) ih
  exact aux _
theorem de_lstRg1 {e : Expr} {δ : DenE} {p p2 pos2 : Pos} (hc : X.calm = true) (hg : Gl X "list") (hm : X.mg "list" = none) (hg2 : Gl X "range") (hm2 : X.mg "range" = none) (hs : notStar e = true) (h : PE X e (rdE (tb X c) W δ)) :
    PE X (.Call (.Name "list" p) [.Call (.Name "range" p2) [e] [] pos2] [] pos) (rdE (tb X c) W (dLstRg1 δ)) := by
  refine PE.imp (pe_listRg hc hg hm (prg_1 hg2 hm2 h (star_cons hs [] X.env)) (star_cons rfl [] X.env)) fun σ H Q h => ?_
  obtain ⟨Z, ρ, μ, g, s, h1⟩ := rd_then (R := Rep (tb X c)) (f := fun _ d μ1 => (match d with
    | .int n => if 0 ≤ n ∧ n ≤ 16777216 then .ok (.lst (intsD 0 n.toNat)) μ1 else .bad
    | _ => .bad : Res D)) h
  refine ⟨Z, ρ, μ, g, s, post_mono h1 fun x H1 ⟨Z1, ρ1, dx, μ1, g1, s1, rx, q1⟩ => ?_⟩
  cases rx with
  | int n =>
    dsimp only at q1
    split at q1
    · rename_i hn
      exact ⟨n, rfl, RgOk.of_le (by decide) hn.2 (by decide) hn.1, new_lst g1 (rgV_reps n) q1⟩
    · exact False.elim q1
  | _ => exact False.elim q1
/-- a class or a built-in type as a value -/
theorem de_cls {x : Str} {k : Nat} (hg : Gl X x) (hm : X.mg x = some (.ref (c k))) (hd : (x == ("__debug__" : Str)) = false) : PE X (.Name x pos) (rdE (tb X c) W (dC (.cls k))) := de_c (pe_glob (v := .ref (c k)) hg hm rfl hd) fun _ => .cls k
theorem de_ty {x : Str} {n : String} (hg : Gl X x) (hm : X.mg x = none) (hv : bootBuiltins x = some (.type n)) (hn : x ≠ "__name__") (hd : (x == ("__debug__" : Str)) = false) : PE X (.Name x pos) (rdE (tb X c) W (dC (.ty n))) := de_c (pe_bltn (v := .ty n) hg hm hv rfl hn hd) fun _ => .ty n
end
end DL

set_option Elab.async false
set_option linter.all false
set_option autoImplicit false
set_option maxRecDepth 100000
/-! DL, part t: short words for derivations that are printed by program. -/
namespace DL
open PySem L2

/-- where a def's rows (or a comprehension's block) stand -/
structure Ct (X : Cx) (W : WX) (k : Nat) (N : List Str) (sc : Scope) : Prop where
  hN : X.N = N
  hs : X.env.scope = sc
  nd : N.Nodup
  calm : X.calm = true
  room : Room k X.A
  grd : X.A.guards = some []
  tk : Takes X W
  po : PassesOwn (model X.prog X.w) X.A X.env X.xe
  kd : sc.kind = .function
/-- the rows of a def itself -/
structure Cd (X : Cx) (W : WX) (k : Nat) (N : List Str) (sc : Scope) : Prop extends Ct X W k N sc where
  fn : ∀ x, X.fn x = true
/-- which names are seen (their places in N), stored, global -/
structure Sc (N : List Str) (sc : Scope) (U L : List Nat) (G : List Str) : Prop where
  vis : ∀ i ∈ U, ∀ x, N[i]? = some x → Vis sc x ∧ (x == ("__debug__" : Str)) = false ∧ (x == ("__classdict__" : Str)) = false
  loc : ∀ i ∈ L, ∀ x, N[i]? = some x → L2.Loc sc x
  gl : ∀ x ∈ G, sc.names.lookup x = some .globalImplicit ∧ (x == ("__debug__" : Str)) = false ∧ x ≠ ("__name__" : Str)
def visN (sc : Scope) (x : Str) : Bool := (match sc.names.lookup x with
  | some .local => true
  | some .cell => true
  | some .free => true
  | _ => false) && !(x == ("__debug__" : Str)) && !(x == ("__classdict__" : Str))
def locN (sc : Scope) (x : Str) : Bool := match sc.names.lookup x with
  | some .local => true
  | some .cell => true
  | _ => false
def glN (sc : Scope) (x : Str) : Bool := (match sc.names.lookup x with
  | some .globalImplicit => true
  | _ => false) && !(x == ("__debug__" : Str)) && !(x == ("__name__" : Str))
def scB (N : List Str) (sc : Scope) (U L : List Nat) (G : List Str) : Bool :=
  (U.all fun i => match N[i]? with | some x => visN sc x | none => true) && (L.all fun i => match N[i]? with | some x => locN sc x | none => true) && G.all (glN sc)
theorem sc_of {N : List Str} {sc : Scope} {U L : List Nat} {G : List Str} (h : scB N sc U L G = true) : Sc N sc U L G := by
  simp only [scB, Bool.and_eq_true, List.all_eq_true] at h
  obtain ⟨⟨h1, h2⟩, h3⟩ := h
  refine ⟨fun i hi x hx => ?_, fun i hi x hx => ?_, fun x hx => ?_⟩
  · have q := h1 i hi
    rw [hx] at q
    simp only [visN, Bool.and_eq_true, Bool.not_eq_true'] at q
    refine ⟨?_, q.1.2, q.2⟩
    have q1 := q.1.1
    unfold Vis
    split at q1
    · exact .inl (by assumption)
    · exact .inr (.inl (by assumption))
    · exact .inr (.inr (by assumption))
    · cases q1
  · have q := h2 i hi
    rw [hx] at q
    simp only [locN] at q
    unfold L2.Loc
    split at q
    · exact .inl (by assumption)
    · exact .inr (by assumption)
    · cases q
  · have q := h3 x hx
    simp only [glN, Bool.and_eq_true, Bool.not_eq_true'] at q
    refine ⟨?_, q.1.2, ?_⟩
    · have q1 := q.1.1
      split at q1
      · assumption
      · cases q1
    · have q2 := q.2
      intro z
      rw [z] at q2
      simp at q2

/-- arguments by place; by name, where they stand -/
def gP : List D → List D → List D := fun ds _ => ds
def gK (p : List Nat) : List D → List D → List D := fun _ es => p.map fun i => es.getD i .non
theorem bt_len : bootBuiltins "len" = some (.builtin "len") := by decide +kernel
theorem bt_abs : bootBuiltins "abs" = some (.builtin "abs") := by decide +kernel
theorem bt_max : bootBuiltins "max" = some (.builtin "max") := by decide +kernel
theorem bt_min : bootBuiltins "min" = some (.builtin "min") := by decide +kernel
theorem bt_divmod : bootBuiltins "divmod" = some (.builtin "divmod") := by decide +kernel
theorem bt_all : bootBuiltins "all" = some (.builtin "all") := by decide +kernel
theorem bt_repr : bootBuiltins "repr" = some (.builtin "repr") := by decide +kernel
theorem bt_isinstance : bootBuiltins "isinstance" = some (.builtin "isinstance") := by decide +kernel
theorem bt_int : bootBuiltins "int" = some (.type "int") := by decide +kernel
theorem bt_str : bootBuiltins "str" = some (.type "str") := by decide +kernel
theorem bt_bool : bootBuiltins "bool" = some (.type "bool") := by decide +kernel
theorem bt_list : bootBuiltins "list" = some (.type "list") := by decide +kernel
theorem bt_tuple : bootBuiltins "tuple" = some (.type "tuple") := by decide +kernel
theorem bt_dict : bootBuiltins "dict" = some (.type "dict") := by decide +kernel
theorem bt_ValueError : bootBuiltins "ValueError" = some (.type "ValueError") := by decide +kernel
theorem bt_LookupError : bootBuiltins "LookupError" = some (.type "LookupError") := by decide +kernel
theorem bt_RuntimeError : bootBuiltins "RuntimeError" = some (.type "RuntimeError") := by decide +kernel
def notSet : Expr → Bool
  | .Set .. => false
  | _ => true
section
variable {X : Cx} {c : Nat → Addr} {W : WX} {k : Nat} {N : List Str} {sc : Scope} {U L : List Nat} {G : List Str} {pos p : Pos}
theorem Ct.gl (C : Ct X W k N sc) (S : Sc N sc U L G) {x : Str} {j : Nat} (h : G[j]? = some x) : Gl X x ∧ (x == ("__debug__" : Str)) = false ∧ x ≠ ("__name__" : Str) := by
  obtain ⟨a, b⟩ := S.gl x (List.mem_of_getElem? h)
  refine ⟨?_, b⟩
  show X.env.scope.names.lookup x = _
  rw [C.hs]
  exact a
theorem v (C : Ct X W k N sc) (S : Sc N sc U L G) (i : Nat) {x : Str} {W' : WX} (hi : i ∈ U := by decide) (hx : N[i]? = some x := by rfl) : PE X (.Name x pos) (rdE (tb X c) W' (dVar i)) := by
  obtain ⟨a, b, d⟩ := S.vis i hi x hx
  exact de_var (by rw [C.hN]; exact hx) (by rw [C.hs]; exact a) b d
theorem Ct.seen (C : Ct X W k N sc) (h : scB N sc U L G = true) : Sc N sc U L G := sc_of h
theorem Cd.lc (C : Cd X W k N sc) (S : Sc N sc U L G) {i : Nat} {x : Str} (hi : i ∈ L) (hx : N[i]? = some x) : X.N[i]? = some x ∧ L2.Loc X.env.scope x ∧ (X.fn x = true ∨ X.env.scope.names.lookup x = some .local) := by
  have a := S.loc i hi x hx
  exact ⟨by rw [C.hN]; exact hx, by rw [C.hs]; exact a, .inl (C.fn x)⟩
theorem g_set (C : Cd X W k N sc) (S : Sc N sc U L G) (i : Nat) {x : Str} (hi : i ∈ L := by decide) (hx : N[i]? = some x := by rfl) : PG X (.Name x pos) (rdTg (tb X c) (gSet i)) := by
  obtain ⟨a, b, d⟩ := C.lc S hi hx
  exact dg_name (by rw [C.hN]; exact C.nd) a b d
theorem s_set (C : Cd X W k N sc) (S : Sc N sc U L G) (i : Nat) {x : Str} {e : Expr} {δ : DenE} (h : PE X e (rdE (tb X c) W δ)) (hn : notComp e = true := by rfl) (hi : i ∈ L := by decide) (hx : N[i]? = some x := by rfl) : PS X (.Assign [.Name x p] e pos) (rdS (tb X c) W (sSet i δ)) := by
  obtain ⟨a, b, d⟩ := C.lc S hi hx
  exact ds_set (by rw [C.hN]; exact C.nd) a b d hn h
/-- f(..), a built-in function | type -/
theorem e_blt (C : Ct X W k N sc) (S : Sc N sc U L G) (j : Nat) {x : Str} {id : String} {o : OpN} {e : Expr} {es : List Expr} {δs : DenA} (ho : CallR X (.builtin id) (rdC (tb X c) o)) (hm : X.mg x = none) (hv : bootBuiltins x = some (.builtin id)) (ha : PA X (e :: es) (rdA (tb X c) W δs))
    (hj : G[j]? = some x := by rfl) (hst : (e :: es).all notStar = true := by rfl) : PE X (.Call (.Name x p) (e :: es) [] pos) (rdE (tb X c) W (dBlt o δs)) := by
  obtain ⟨a, b, d⟩ := C.gl S hj
  exact de_blt ho a hm hv hst ha d b
theorem e_bty (C : Ct X W k N sc) (S : Sc N sc U L G) (j : Nat) {x : Str} {id : String} {o : OpN} {e : Expr} {es : List Expr} {δs : DenA} (ho : CallR X (.type id) (rdC (tb X c) o)) (hm : X.mg x = none) (hv : bootBuiltins x = some (.type id)) (ha : PA X (e :: es) (rdA (tb X c) W δs))
    (hj : G[j]? = some x := by rfl) (hst : (e :: es).all notStar = true := by rfl) : PE X (.Call (.Name x p) (e :: es) [] pos) (rdE (tb X c) W (dBlt o δs)) := by
  obtain ⟨a, b, d⟩ := C.gl S hj
  exact de_bty ho a hm hv hst ha d b
/-- an own def by its global name -/
structure Fn (P : Program) (w : World) (K : PySem.W.Frag) (mg : Str → Option Value) (base : Heap) (cl : Nat → Addr) (x : Str) (ps : List Str) (k : Nat) (m : Mir) : Prop where
  ex : ∃ f fd, mg x = some (.ref f) ∧ PySem.W.keepIn K (.ref f) = true ∧ GnOk P w K mg base k f fd ps (spM ⟨K, cl⟩ ps.length m) ∧ Binds K fd ps []
theorem e_call (C : Ct X W k N sc) (S : Sc N sc U L G) (j : Nat) {x : Str} {ps : List Str} {k' : Nat} {m : Mir} {es : List Expr} {δs : DenA} (F : Fn X.prog X.w X.K X.mg X.base c x ps k' m) (ha : PA X es (rdA (tb X c) W δs)) (hk : k' ≤ k := by decide)
    (hj : G[j]? = some x := by rfl) (hst : es.all notStar = true := by rfl) (hnil : es = [] → δs = dNil := by intro z; cases z) : PE X (.Call (.Name x p) es [] pos) (rdE (tb X c) W (dCallK ps.length 0 (fun ds _ => ds) m δs dNil)) := by
  obtain ⟨a, b, d⟩ := C.gl S hj
  obtain ⟨f, fd, h1, h2, h3, h4⟩ := F.ex
  exact de_call (kws := []) h3 (C.room.mono hk) C.grd C.tk a h1 h2 (kb_pos (T := tb X c) h4) b hnil hst rfl ha dk_nil
theorem e_exc (C : Ct X W k N sc) (S : Sc N sc U L G) (j : Nat) {x : Str} {n np : Nat} {ps : List Str} {g : List D → List D → List D} {es : List Expr} {kws : List Keyword} {δs δk : DenA} (M : XMk X.K c n ps (kwNames kws) np g) (hm : X.mg x = some (.ref (c n)))
    (ha : PA X es (rdA (tb X c) W δs)) (hkw : PK X kws (rdA (tb X c) W δk)) (hj : G[j]? = some x := by rfl) (hst : es.all notStar = true := by rfl) (hkn : kws.all (·.arg.isSome) = true := by rfl) (hnil : es = [] → δs = dNil := by first | (intro _; rfl) | (intro z; cases z)) :
    PE X (.Call (.Name x p) es kws pos) (rdE (tb X c) W (dExc n np (kwNames kws).length ps g δs δk)) := by
  obtain ⟨a, b, d⟩ := C.gl S hj
  exact de_exc M C.room a hm b hnil hst hkn ha hkw
theorem e_exc0 (C : Ct X W k N sc) (S : Sc N sc U L G) (j : Nat) {x : Str} {n : Nat} (M : XMk0 X.K (c n)) (hm : X.mg x = some (.ref (c n))) (hj : G[j]? = some x := by rfl) : PE X (.Call (.Name x p) [] [] pos) (rdE (tb X c) W (dExc0 n)) := by
  obtain ⟨a, b, d⟩ := C.gl S hj
  exact de_exc0 M a hm b
theorem e_cls (C : Ct X W k N sc) (S : Sc N sc U L G) (j : Nat) {x : Str} {n : Nat} (hm : X.mg x = some (.ref (c n))) (hj : G[j]? = some x := by rfl) : PE X (.Name x pos) (rdE (tb X c) W (dC (.cls n))) := by
  obtain ⟨a, b, d⟩ := C.gl S hj
  exact de_cls a hm b
theorem e_ty (C : Ct X W k N sc) (S : Sc N sc U L G) (j : Nat) {x : Str} {n : String} (hm : X.mg x = none) (hv : bootBuiltins x = some (.type n)) (hj : G[j]? = some x := by rfl) : PE X (.Name x pos) (rdE (tb X c) W (dC (.ty n))) := by
  obtain ⟨a, b, d⟩ := C.gl S hj
  exact de_ty a hm hv d b
theorem e_xf {e : Expr} {f : Str} {δ : DenE} {cs : List Nat} (M : NoF X.K c cs f) (h : PE X e (rdE (tb X c) W δ)) (hb : attributeBase e f X.env (eval e X.env) = eval e X.env := by rfl) : PE X (.Attribute e f pos) (rdE (tb X c) W (dUn (xfC cs f) δ)) := de_xf M hb h
/-- the list comprehension, one name as its target -/
theorem blk_ct (C : Ct X W k N sc) {scope : Scope} {own : List (Str × Nat)} (bo : BlkOk N sc scope own) (s : Shared) (H : Hp) (Cc : Addr) (cl : List (Str × Addr)) (fp : List Addr) : Ct (X.blk s H scope (compEnvC scope cl Cc X.env) fp) W0 k N (relS scope sc) := by
  refine ⟨C.hN, ?_, C.nd, C.calm, C.room, C.grd, fun _ _ z => ?_, PassesOwn.never, ?_⟩
  · rw [← C.hs]
    rfl
  · obtain ⟨_, _, _, _, _, _, _, _, _, _, _, _, _, _, _, _, w⟩ := z
    exact w.elim
  · exact bo.kind
theorem foldSet_of {e : Expr} (h : notSet e = true) (env : PySem.Env) (x : Value) : foldedSetIterable e env x = pure x := by
  cases e <;> first | rfl | cases h
theorem own_loc {scope : Scope} {x : Str} (h : scope.names.lookup x = some .local) (s : Shared) (H : Hp) (Cc : Addr) (cl : List (Str × Addr)) (fp : List Addr) : (X.blk s H scope (compEnvC scope cl Cc X.env) fp).env.scope.names.lookup x = some .local := lookup_relabel_local h
theorem own_tg (C : Ct X W k N sc) {i : Nat} {x : Str} {scope : Scope} (hx : N[i]? = some x) (hl : scope.names.lookup x = some .local) (s : Shared) (H : Hp) (Cc : Addr) (cl : List (Str × Addr)) (fp : List Addr) : PG (X.blk s H scope (compEnvC scope cl Cc X.env) fp) (.Name x p) (gName i) :=
  pg_name (by show X.N.Nodup; rw [C.hN]; exact C.nd) (by show X.N[i]? = some x; rw [C.hN]; exact hx) (.inl (own_loc hl s H Cc cl fp)) (.inr (own_loc hl s H Cc cl fp))
/-- [elt for x in iter] with x at the place i -/
theorem e_lc1 (C : Ct X W k N sc) (i : Nat) {x : Str} {elt iter : Expr} {ifs : List Expr} {scope : Scope} {it : DenI} {τ : DenT} {ε : DenE} (bo : BlkOk N sc scope [(x, i)]) (hi : PI X (.Name x p) iter (rdI (tb X c) W it))
    (ht : Blk X scope fun Y => Ct Y W0 k N (relS scope sc) → PTs Y ifs (rdT (tb X c) W0 τ)) (he : Blk X scope fun Y => Ct Y W0 k N (relS scope sc) → PE Y elt (rdE (tb X c) W0 ε)) (hl : scope.names.lookup x = some .local := by rfl)
    (hfs : notSet iter = true := by rfl) : PE X (.ListComp elt [⟨.Name x p, iter, ifs, 0⟩] scope pos) (rdE (tb X c) W (dLc [i] it (vName i) τ ε)) := by
  have bo' : BlkOk X.N X.env.scope scope [(x, i)] := by rw [C.hN, C.hs]; exact bo
  exact de_lc (own := [(x, i)]) C.calm (by rw [C.hN]; exact C.nd) hi bo' (fun s H Cc cl fp => own_tg C (bo.ix _ List.mem_cons_self) hl s H Cc cl fp) (tg_name (by simp)) (fun s H Cc cl fp => ht s H Cc cl fp (blk_ct C bo s H Cc cl fp)) (fun s H Cc cl fp => he s H Cc cl fp (blk_ct C bo s H Cc cl fp)) fun z => foldSet_of hfs _ z
/-- y = [elt for x in iter] -/
theorem s_lc1 (C : Cd X W k N sc) (S : Sc N sc U L G) (j i : Nat) {x y : Str} {elt iter : Expr} {ifs : List Expr} {scope : Scope} {it : DenI} {τ : DenT} {ε : DenE} {p2 p3 : Pos} (bo : BlkOk N sc scope [(x, i)]) (hi : PI X (.Name x p) iter (rdI (tb X c) W it))
    (ht : Blk X scope fun Y => Ct Y W0 k N (relS scope sc) → PTs Y ifs (rdT (tb X c) W0 τ)) (he : Blk X scope fun Y => Ct Y W0 k N (relS scope sc) → PE Y elt (rdE (tb X c) W0 ε)) (hl : scope.names.lookup x = some .local := by rfl)
    (hfs : notSet iter = true := by rfl) (hy : N[j]? = some y := by rfl) (hyl : sc.names.lookup y = some .local := by decide +kernel) (hln : (p2.line == pos.line) = true := by rfl)
    (hnn : (scope.names.any fun (n, k) => n == y && (k == .local || k == .cell)) = false := by decide +kernel) : PS X (.Assign [.Name y p2] (.ListComp elt [⟨.Name x p, iter, ifs, 0⟩] scope pos) p3) (rdS (tb X c) W (sSet j (dLc [i] it (vName i) τ ε))) := by
  have bo' : BlkOk X.N X.env.scope scope [(x, i)] := by rw [C.hN, C.hs]; exact bo
  exact ds_setLc (own := [(x, i)]) C.calm (by rw [C.hN]; exact C.nd) (by rw [C.hN]; exact hy) (by rw [C.hs]; exact hyl) (sw_true (by rw [C.hs]; exact C.kd) (by rw [C.hs]; exact hyl) hln hnn) hi bo' (fun s H Cc cl fp => own_tg C.toCt (bo.ix _ List.mem_cons_self) hl s H Cc cl fp) (tg_name (by simp))
    (fun s H Cc cl fp => ht s H Cc cl fp (blk_ct C.toCt bo s H Cc cl fp)) (fun s H Cc cl fp => he s H Cc cl fp (blk_ct C.toCt bo s H Cc cl fp)) fun z => foldSet_of hfs _ z
theorem i_rng1 (C : Ct X W k N sc) (S : Sc N sc U L G) (j : Nat) {tg a : Expr} {δs : DenA} (hm : X.mg "range" = none) (ha : PA X [a] (rdA (tb X c) W δs)) (hj : G[j]? = some ("range" : Str) := by rfl) (hs : notStar a = true := by rfl) : PI X tg (.Call (.Name "range" p) [a] [] pos) (rdI (tb X c) W (iRng1 δs)) := di_rng1 (C.gl S hj).1 hm hs ha
theorem i_rng2 (C : Ct X W k N sc) (S : Sc N sc U L G) (j : Nat) {tg a b : Expr} {δs : DenA} (hm : X.mg "range" = none) (ha : PA X [a, b] (rdA (tb X c) W δs)) (hj : G[j]? = some ("range" : Str) := by rfl) (hs : notStar a = true := by rfl) (hs2 : notStar b = true := by rfl) : PI X tg (.Call (.Name "range" p) [a, b] [] pos) (rdI (tb X c) W (iRng2 δs)) := di_rng2 (C.gl S hj).1 hm hs hs2 ha
theorem i_enum (C : Ct X W k N sc) (S : Sc N sc U L G) (j : Nat) {e : Expr} {δs : DenA} {elts : List Expr} {kk : Nat} {tpos : Pos} (hm : X.mg "enumerate" = none) (ha : PA X [e] (rdA (tb X c) W δs)) (hj : G[j]? = some ("enumerate" : Str) := by rfl) (hs : notStar e = true := by rfl) :
    PI X (.Tuple elts kk tpos) (.Call (.Name "enumerate" p) [e] [] pos) (rdI (tb X c) W (iEnumD δs)) := di_enum (C.gl S hj).1 hm hs ha
theorem e_lrg (C : Ct X W k N sc) (S : Sc N sc U L G) (j i : Nat) {e : Expr} {δ : DenE} {p2 pos2 : Pos} (hm : X.mg "list" = none) (hm2 : X.mg "range" = none) (h : PE X e (rdE (tb X c) W δ)) (hj : G[j]? = some ("list" : Str) := by rfl) (hi : G[i]? = some ("range" : Str) := by rfl) (hs : notStar e = true := by rfl) :
    PE X (.Call (.Name "list" p) [.Call (.Name "range" p2) [e] [] pos2] [] pos) (rdE (tb X c) W (dLstRg1 δ)) := de_lstRg1 C.calm (C.gl S hj).1 hm (C.gl S hi).1 hm2 hs h
theorem s_for (C : Cd X W k N sc) {tg iter : Expr} {body : List Stmt} {it : DenI} {γ : DenG} {δ : DenS} (hi : PI X tg iter (rdI (tb X c) W it)) (hg : PG X tg (rdTg (tb X c) γ)) (hb : PSs X body (rdS (tb X c) W δ)) (hfs : notSet iter = true := by rfl) :
    PS X (.For tg iter body [] pos) (rdS (tb X c) W (sFor it γ δ)) := ds_for C.po C.calm hi hg hb fun z => foldSet_of hfs _ z
theorem s_par2 (C : Cd X W k N sc) (i j : Nat) {x y : Str} {u v : Expr} {px py pt pt2 : Pos} {kt k2 : Nat} {δs : DenA} (ha : PA X [u, v] (rdA (tb X c) W δs)) (hx : sc.names.lookup x = some .local) (hy : sc.names.lookup y = some .local) (hw : swappedStores [.Tuple [.Name x px, .Name y py] kt pt] (.Tuple [u, v] k2 pt2) X.env = pure (some [x, y]))
    (hi : N[i]? = some x := by rfl) (hj : N[j]? = some y := by rfl) (hij : i ≠ j := by decide) : PS X (.Assign [.Tuple [.Name x px, .Name y py] kt pt] (.Tuple [u, v] k2 pt2) pos) (rdS (tb X c) W (sPar2 i j δs)) :=
  ds_par2 C.calm (by rw [C.hN]; exact C.nd) (by rw [C.hN]; exact hi) (by rw [C.hN]; exact hj) hij (by rw [C.hs]; exact hx) (by rw [C.hs]; exact hy) ha hw
theorem s_par3 (C : Cd X W k N sc) (i j l : Nat) {x y z : Str} {u v w : Expr} {px py pz pt pt2 : Pos} {kt k2 : Nat} {δs : DenA} (ha : PA X [u, v, w] (rdA (tb X c) W δs)) (hx : sc.names.lookup x = some .local) (hy : sc.names.lookup y = some .local) (hz : sc.names.lookup z = some .local)
    (hw : swappedStores [.Tuple [.Name x px, .Name y py, .Name z pz] kt pt] (.Tuple [u, v, w] k2 pt2) X.env = pure (some [x, y, z])) (hi : N[i]? = some x := by rfl) (hj : N[j]? = some y := by rfl) (hl : N[l]? = some z := by rfl) (hij : i ≠ j := by decide) (hil : i ≠ l := by decide) (hjl : j ≠ l := by decide) :
    PS X (.Assign [.Tuple [.Name x px, .Name y py, .Name z pz] kt pt] (.Tuple [u, v, w] k2 pt2) pos) (rdS (tb X c) W (sPar3 i j l δs)) :=
  ds_par3 C.calm (by rw [C.hN]; exact C.nd) (by rw [C.hN]; exact hi) (by rw [C.hN]; exact hj) (by rw [C.hN]; exact hl) hij hil hjl (by rw [C.hs]; exact hx) (by rw [C.hs]; exact hy) (by rw [C.hs]; exact hz) ha hw
end
/-- THE RULE for a def, for printed derivations -/
theorem fn_t {P : Program} {w : World} {K : PySem.W.Frag} {mg : Str → Option Value} {base : Heap} {cl : Nat → Addr} {k : Nat} {f : Addr} {name qual : Str} {st : Stmt} {kV doc pm cdv ct oc : Value} {an od : Option Addr} {osl : Array (Option Value)} {N ps : List Str} {δ : DenS}
    (lk : K.lookup f = some ⟨oc, od, .func (PySem.W.fnOf name qual (defArgs st) (defBody st) (defScope st) .none kV doc pm an cdv ct), osl⟩) (hcd : PySem.W.codeIn K cdv qual = true) (S : FnScope N ps (defScope st))
    (hb : ∀ (A : Around) (outer : List PySem.Env) (s : Shared) (H : Hp) (E : XK), Cd (cxOf (L2.CX P w) P w K mg base N qual (defScope st) f cdv A outer s H E) (fun cls d _ H' => E cls d H') k N (defScope st) →
      PSs (cxOf (L2.CX P w) P w K mg base N qual (defScope st) f cdv A outer s H E) (defBody st) (rdS ⟨K, cl⟩ (fun cls d _ H' => E cls d H') δ)) :
    GnOk P w K mg base (k + 1) f (PySem.W.fnOf name qual (defArgs st) (defBody st) (defScope st) .none kV doc pm an cdv ct) ps (spM ⟨K, cl⟩ ps.length (runBody N.length δ)) := fn_d2 lk hcd S fun A outer s H E hr hG tk po => hb A outer s H E ⟨⟨rfl, rfl, S.nd, rfl, hr, hG, tk, po, S.kind⟩, fun _ => rfl⟩
end DL

set_option Elab.async false
set_option linter.all false
set_option autoImplicit false
set_option maxRecDepth 100000
/-! DL, part s: the end of a law. -/
namespace DL
open PySem L2 PySem.Spec PyProof.Rows

theorem reps_ints {T : Tab} {Z : Wd} : ∀ ns : List Int, Reps T Z (ns.map D.int) (ns.map V.int)
  | [] => .nil
  | n :: ns => .cons (.int n) (reps_ints ns)
theorem no_cx {P : Program} {w : World} {H : Hp} {s s' : Shared} {e : Value} (h : L2.CX P w [] H s (fun _ _ _ => False) e s') : False := by
  obtain ⟨_, _, _, _, _, _, _, _, _, _, _, _, z⟩ := h
  exact z
/-- the law's def, called with the script, from its promise over every base -/
theorem law_g {P : Program} {w : World} {K : PySem.W.Frag} {mg mb : Str → Option Value} {cl : Nat → Addr} {k : Nat} {fa a : Addr} {fd : FuncData} {x : Str} {m : Mir} {s₁ : Shared} {vs : List Value} {ns : List Int}
    (KX : K.In s₁.heap) (hns : s₁.heap.Ns mainGlobals mg) (hb : s₁.heap.Ns builtinsNs mb) (hbb : ∀ x : Str, x ≠ "__name__" → mb x = bootBuiltins x) (hlim : s₁.heap.NoLimit) (hg : s₁.gens = #[])
    (ha : s₁.heap.get? a = some { cls := .type "list", data := .seq vs.toArray }) (hi : IntsAre vs ns) (hl : ns.length ≤ sizeLine) (hr : Room k callerA)
    (hsm : ∃ mm, s₁.heap.Ns sysModules mm) (F : ∀ base : Heap, K.In base → base.Ns mainGlobals mg → (∃ o, base.get? sysModules = some o) → GnOk P w K mg base k fa fd [x] (spM ⟨K, cl⟩ 1 m)) (hbind : ∀ (s : Shared) (u : Value), BindsTo s fd ⟨[u], []⟩ [(x, u)])
    (hm : ∃ μ, m [.scr (ns.map D.int)] [] = .ok (.bl true) μ) :
    codeAny (model P w) callerA (.call (.ref fa) ⟨[.ref a], []⟩) (fun r s' => r = .ok (.ret (.bool true)) ∧ OldK s₁.heap s'.heap ∧ s'.os = s₁.os ∧ AllBare s'.gens) s₁ := by
  have rv := vals_ints hi
  have lenV := hi.length
  obtain ⟨H, hO, hA⟩ : ∃ H : Hp, (∀ b, b ≠ a → H b = none) ∧ ((H a = none ∧ SqL K H a (ns.map V.int)) ∨ (K.lookup a = none ∧ H a = some (.frz { cls := .type "list", data := .seq vs.toArray } (.lst (ns.map V.int))))) := by
    cases hk : K.lookup a with
    | none => exact ⟨fun b => if b = a then some (.frz { cls := .type "list", data := .seq vs.toArray } (.lst (ns.map V.int))) else none, fun b hb => if_neg hb, .inr ⟨rfl, if_pos rfl⟩⟩
    | some o =>
      have e := KX a o hk
      rw [ha] at e
      cases e
      exact ⟨fun _ => none, fun _ _ => rfl, .inl ⟨rfl, .inr ⟨_, vs.toArray, _, hk, rfl, rfl, rfl, by rw [List.size_toArray, lenV]; exact hl, by simpa using rv⟩⟩⟩
  have hS : SqL K H a (ns.map V.int) := by
    rcases hA with ⟨_, z⟩ | ⟨_, z⟩
    · exact z
    · exact .inl (.inr ⟨_, z⟩)
  have only : ∀ {b : Addr} {u : HO}, H b = some u → b = a ∧ K.lookup a = none ∧ u = .frz { cls := .type "list", data := .seq vs.toArray } (.lst (ns.map V.int)) := fun {b u} e => by
    by_cases hba : b = a
    · rcases hA with ⟨z, _⟩ | ⟨z1, z⟩
      · rw [hba, z] at e
        cases e
      · rw [hba, z] at e
        exact ⟨hba, z1, (Option.some.inj e).symm⟩
    · rw [hO b hba] at e
      cases e
  have hok : HOk P w H s₁.heap := fun b u z => by
    obtain ⟨e1, _, e2⟩ := only z
    subst e1 e2
    exact ⟨ha, by rw [List.length_map]; exact hl, vs, _, rv, ha⟩
  have dict_out : ∀ {b : Addr} {m : Str → Option Value}, s₁.heap.Ns b m → (hidT s₁.heap H).Ns b m := fun {b m} ⟨o, es, ep, e, d, r⟩ => by
    refine ⟨o, es, ep, hidT_get e ?_, d, r⟩
    cases q : H b with
    | none => rfl
    | some u =>
      obtain ⟨e1, _⟩ := only q
      subst e1
      rw [ha] at e
      cases e
      cases d
  have hKb : K.In (hidT s₁.heap H) := fun b o e => hidT_get (KX b o e) (by
    cases q : H b with
    | none => rfl
    | some u =>
      obtain ⟨e1, e2, _⟩ := only q
      rw [e1, e2] at e
      cases e)
  have hM : L2.Mod K mg (hidT s₁.heap H) := ⟨hKb, dict_out hns, ⟨mb, dict_out hb, hbb⟩, let ⟨mc, h1, h2⟩ := hlim; ⟨mc, dict_out h1, h2⟩⟩
  have none_in : ∀ b : Addr, ¬ b ∈ ([] : List Addr) := fun b => by simp
  have e0 : Env0 P w K mg (hidT s₁.heap H) callerA [] s₁ H := ⟨rfl, hM, fun b o e => of_hidT e, Nat.le_of_eq (hidT_size _ _), trivial, fun b hb => absurd hb (none_in b), hok, .of_eq hg⟩
  obtain ⟨μ, hm⟩ := hm
  have gd : Good ⟨K, cl⟩ ⟨H, []⟩ H [] := ⟨fun _ _ e => e, rfl, List.nodup_nil, fun b hb => absurd hb (none_in b), fun n b m e => by simp at e⟩
  have sp : spM ⟨K, cl⟩ 1 m [.ref a] H (fun v _ => v = .bl true) fun _ _ _ => False := by
    refine ⟨rfl, ⟨H, []⟩, [.scr (ns.map D.int)], [], gd, .cons (.scr hS (reps_ints ns)) .nil, ?_⟩
    rw [hm]
    intro Z' H' v l g r
    cases r
    rfl
  refine codeAny_mono ((F _ hKb (dict_out hns) (let ⟨_, z⟩ := hsm; let ⟨o, _, _, e, _⟩ := dict_out z; ⟨o, e⟩)).run callerA [] s₁ H ⟨[.ref a], []⟩ [.ref a] [.ref a] _ _ hr rfl e0 (hbind s₁ (.ref a)) (.cons rfl .nil) sp) fun r s' h => ?_
  cases r with
  | error e => exact (no_cx h).elim
  | ok fl =>
    cases fl with
    | next => exact False.elim h
    | brk => exact False.elim h
    | cont => exact False.elim h
    | ret u =>
      obtain ⟨v, H', os, bare, un, hok', r', q⟩ := h
      have q' : v = .bl true := q
      subst q'
      obtain rfl : u = Value.bool true := r'
      refine ⟨rfl, OldK.of_keep fun b o e => ?_, os, bare⟩
      cases q : H b with
      | none => exact un.keep b o e q (none_in b) (none_in b)
      | some u =>
        obtain ⟨e1, _, e2⟩ := only q
        subst e2
        obtain ⟨h1, _⟩ := hok b _ q
        obtain ⟨h2, _⟩ := hok' b _ (un.frzs b _ _ q)
        rw [e] at h1
        cases h1
        exact h2
/-- what is left of a law behind k_fill -/
theorem walk_g {l : PySem.W.OpenLaw} {n k : Nat} {q : Program} {loose : List Str} {XP : (Str → Option Value) → Heap → Prop} {YP : World → Heap → Prop} {d : DefRec} {K : Params → PySem.W.Frag} {x : Str} {m : Mir}
    (hn : l.most = some n) (hn2 : n ≤ sizeLine) (hdf : d.params.defaults = []) (hr : Room k callerA) (hI : importsNone q = true) (hY : ∀ (w : World) (h : Heap), YP w h → (K w.params).In h)
    (F : ∀ (w : World) (mg : Str → Option Value) (fa : Addr) (h : Heap), (K w.params).In h → h.Ns mainGlobals mg → mg d.name = some (.ref fa) →
      ∃ (fd : FuncData) (cl : Nat → Addr), (∀ (s : Shared) (u : Value), BindsTo s fd ⟨[u], []⟩ [(x, u)]) ∧ ∀ base : Heap, (K w.params).In base → base.Ns mainGlobals mg → (∃ o, base.get? sysModules = some o) → GnOk l.prog w (K w.params) mg base k fa fd [x] (spM ⟨K w.params, cl⟩ 1 m))
    (hm : ∀ ns : List Int, ns.length ≤ n → (∀ z ∈ ns, Builtin.Int.intBits z ≤ 1048576) → ∃ μ, m [.scr (ns.map D.int)] [] = .ok (.bl true) μ) :
    PySem.W.WalkO q loose XP YP l.row.toRowW d [] (fun f vs => PySem.call f vs) := by
  refine Att.attach_callB hn hdf fun w s₀ s₁ mg mb fa o pm cd doc a vs ns G Y ho hd hcd hmg hobj hints hlen hbits hg => ?_
  have KX := hY w _ Y
  obtain ⟨fd, cl, hb, hF⟩ := F w mg fa _ KX G.T.g hmg
  exact law_g KX G.T.g G.T.b G.T.builtins G.T.nolimit hg hobj hints (Nat.le_trans hlen hn2) hr (let ⟨mm, z, _⟩ := (G.T.seer hI).mods; ⟨mm, z⟩) hF hb (hm ns hlen hbits)
end DL

set_option Elab.async false
set_option linter.all false
set_option autoImplicit false
set_option maxRecDepth 100000
/-! DL, part r: classes of exceptions by tables. -/
namespace DL
open PySem L2 PySem.DLX PySem.W

def famN : Nat → String
  | 0 => "ValueError"
  | 1 => "LookupError"
  | _ => "RuntimeError"
def bmF : Nat → List Value
  | 0 => [.type "ValueError", .type "Exception", .type "BaseException", .type "object"]
  | 1 => [.type "LookupError", .type "Exception", .type "BaseException", .type "object"]
  | _ => [.type "RuntimeError", .type "Exception", .type "BaseException", .type "object"]
def nwF : Nat → String
  | 0 => "ValueError.__new__"
  | 1 => "LookupError.__new__"
  | _ => "RuntimeError.__new__"
def inF : Nat → String
  | 0 => "ValueError.__init__"
  | 1 => "LookupError.__init__"
  | _ => "RuntimeError.__init__"
theorem famF (b : Nat) : ExcBaseFacts (famN b) (nwF b) (inF b) (bmF b) := match b with
  | 0 => F.excBase_ValueError
  | 1 => F.excBase_LookupError
  | _ + 2 => F.excBase_RuntimeError
theorem famP (b : Nat) (self : Value) : refuseLoop self "__setattr__" (bmF b) = pure () := match b with
  | 0 => F.store_ValueError.passes self
  | 1 => F.store_LookupError.passes self
  | _ + 2 => F.store_RuntimeError.passes self
theorem famO (b : Nat) : (bmF b).contains (.type "object") = true := match b with
  | 0 => by decide +kernel
  | 1 => by decide +kernel
  | _ + 2 => by show List.contains [Value.type "RuntimeError", .type "Exception", .type "BaseException", .type "object"] (.type "object") = true; decide +kernel
def xclsB (K : W.Frag) (C : Addr) (b : Nat) : Bool := (match clsIn K C with
  | some cd => cd.hasDict && (match cd.mro with
    | .ref C' :: bm => C' == C && excTail (bmF b) bm
    | _ => false)
  | none => false) && excInitIn K C (bmF b) (nwF b) && decide (findIn K (.ref C) "__setattr__" = some (some (.builtin "object.__setattr__")))
theorem xcls_of {K : W.Frag} {C : Addr} {b : Nat} (h : xclsB K C b = true) : XCls K C := by
  simp only [xclsB, Bool.and_eq_true, decide_eq_true_eq] at h
  obtain ⟨⟨h1, h2⟩, h3⟩ := h
  refine ⟨?_, ⟨_, _, _, _, famF b, h2⟩, h3⟩
  split at h1
  · rename_i cd e
    simp only [Bool.and_eq_true] at h1
    obtain ⟨hd, hm⟩ := h1
    split at hm
    · rename_i C' bm em
      simp only [Bool.and_eq_true, beq_iff_eq] at hm
      obtain ⟨rfl, ht⟩ := hm
      exact ⟨_, cd, e, ⟨bm, em, ht⟩, hd, famO b, famP b⟩
    · cases hm
  · cases h1
def xB (K : W.Frag) (C fI : Addr) (b : Nat) (ps : List Str) : Bool := xclsB K C b && xisB K C && keepIn K (.ref C) && decide (findIn K (.ref C) "__init__" = some (some (.ref fI))) && decide (typeIn K (.ref fI) = some (.type "function")) && ps.all fun f => decide (findIn K (.ref C) f = some none)
/-- self.f = f, read from the text -/
def fldOf : Stmt → Fld
  | .Assign [.Attribute (.Name _ p1) f p2] (.Name _ p3) p4 => (f, p1, p2, p3, p4)
  | _ => ("", ⟨0, 0, 0, 0⟩, ⟨0, 0, 0, 0⟩, ⟨0, 0, 0, 0⟩, ⟨0, 0, 0, 0⟩)
/-- an __init__ that stores its parameters ps; ks: their names at a call by name, p: where each stands there -/
structure Shp (st : Stmt) (ps ks : List Str) (p : List Nat) : Prop where
  body : (defBody st).map (fun s => stOf (fldOf s)) = defBody st
  nms : (defBody st).map (fun s => (fldOf s).1) = ps
  kind : (defScope st).kind = .function
  co : (defScope st).isCoroutine = false
  gen : (defScope st).isGenerator = false
  loc : (ps.all fun z => (defScope st).names.lookup z == some .local) = true
  slf : (defScope st).names.lookup ("self" : Str) = some .local
  nd : ps.Nodup
  ns : ("self" : Str) ∉ ps
  dbg : (ps.all fun z => z != ("__debug__" : Str)) = true
  len : ps.length ≤ 800
  ne : ps ≠ []
  pos : ∀ (name qual : Str) (kV doc pm cdv ct : Value) (an : Option Addr) (x : Value) (us : List Value), us.length = ps.length → bindArgs (fnOf name qual (defArgs st) (defBody st) (defScope st) .none kV doc pm an cdv ct) ⟨x :: us, []⟩ = pure ((("self" : Str), x) :: ps.zip us)
  kwd : ∀ (name qual : Str) (kV doc pm cdv ct : Value) (an : Option Addr) (x : Value) (ws : List Value), ws.length = ks.length → bindArgs (fnOf name qual (defArgs st) (defBody st) (defScope st) .none kV doc pm an cdv ct) ⟨[x], ks.zip ws⟩ = pure ((("self" : Str), x) :: ps.zip (p.map fun i => ws.getD i .none))
  pl : p.length = ps.length
def XT (K : W.Frag) (C : Addr) (b : Nat) (ps : List Str) (qual : Str) (st : Stmt) : Prop :=
  ∃ (fI : Addr) (oc kV doc pm cdv ct : Value) (an od : Option Addr) (osl : Array (Option Value)), K.lookup fI = some ⟨oc, od, .func (fnOf "__init__" qual (defArgs st) (defBody st) (defScope st) .none kV doc pm an cdv ct), osl⟩ ∧ codeIn K cdv qual = true ∧ xB K C fI b ps = true
theorem xt_mk {K : W.Frag} {C : Addr} {b : Nat} {ps : List Str} {qual : Str} {st : Stmt} {fI : Addr} {oc kV doc pm cdv ct : Value} {an od : Option Addr} {osl : Array (Option Value)} (h0 : findIn K (.ref C) "__init__" = some (some (.ref fI)))
    (h1 : K.lookup fI = some ⟨oc, od, .func (fnOf "__init__" qual (defArgs st) (defBody st) (defScope st) .none kV doc pm an cdv ct), osl⟩) (h2 : codeIn K cdv qual = true) (h3 : xB K C fI b ps = true) : XT K C b ps qual st := ⟨_, _, _, _, _, _, _, _, _, _, h1, h2, h3⟩
theorem bindL_at {kindOf : Str → Option NameKind} {f : Str} : ∀ {binds : List (Str × Value)} {m : Str → Option Value}, (∀ z ∈ binds, kindOf z.1 = some .local) → (binds.map (·.1)).Nodup → PySem.bindL kindOf binds m f = match binds.lookup f with
    | some v => some v
    | none => m f
  | [], _, _, _ => rfl
  | (n, v) :: r, m, hk, nd => by
    have nd' := List.nodup_cons.mp nd
    show PySem.bindL kindOf r (if kindOf n = some .local then fun y => if y = n then some v else m y else m) f = _
    rw [if_pos (hk _ List.mem_cons_self), bindL_at (fun z hz => hk z (List.mem_cons_of_mem _ hz)) nd'.2, List.lookup_cons]
    by_cases e : f = n
    · subst e
      have z : r.lookup f = none := by
        cases q : r.lookup f with
        | none => rfl
        | some u =>
          exfalso
          apply nd'.1
          clear nd nd' hk
          induction r with
          | nil => cases q
          | cons y r ih =>
            rw [List.lookup_cons] at q
            cases e : f == y.1 with
            | true =>
              have e' : f = y.1 := by simpa using e
              rw [e', List.map_cons]
              exact List.mem_cons_self
            | false =>
              rw [e] at q
              exact List.mem_cons_of_mem _ (ih q)
      rw [z]
      simp
    · have e' : (f == n) = false := by simpa using e
      rw [e']
      simp only [if_neg e]
theorem map_zip1 {β : Type} : ∀ (l : List Str) (b : List β), b.length = l.length → (l.zip b).map (·.1) = l
  | [], _, _ => rfl
  | _ :: _, [], h => by simp at h
  | p :: l, v :: b, h => by
    rw [List.zip_cons_cons, List.map_cons, map_zip1 l b (by simpa using h)]
theorem vals_getD : ∀ {zs : List V} {ws : List Value}, Vals zs ws → ∀ i, RelV (zs.getD i .non) (ws.getD i .none)
  | _, _, .nil, i => by simp; rfl
  | _, _, .cons h r, 0 => by simpa using h
  | _, _, .cons h r, i + 1 => by simpa using vals_getD r i
theorem reps_getD {T : Tab} {Z : Wd} : ∀ {es : List D} {zs : List V}, Reps T Z es zs → ∀ i, Rep T Z (es.getD i .non) (zs.getD i .non)
  | _, _, .nil, i => by simp; exact .non
  | _, _, .cons h r, 0 => by simpa using h
  | _, _, .cons h r, i + 1 => by simpa using reps_getD r i
theorem vals_map {zs : List V} {ws : List Value} (h : Vals zs ws) : ∀ p : List Nat, Vals (p.map fun i => zs.getD i .non) (p.map fun i => ws.getD i .none)
  | [] => .nil
  | i :: p => .cons (vals_getD h i) (vals_map h p)
theorem reps_map {T : Tab} {Z : Wd} {es : List D} {zs : List V} (h : Reps T Z es zs) : ∀ p : List Nat, Reps T Z (p.map fun i => es.getD i .non) (p.map fun i => zs.getD i .non)
  | [] => .nil
  | i :: p => .cons (reps_getD h i) (reps_map h p)
section
variable {K : W.Frag} {cl : Nat → Addr} {n b : Nat} {ps ks : List Str} {p : List Nat} {qual : Str} {st : Stmt}
theorem Shp.bl (S : Shp st ps ks p) (x : Addr) (bs : List Value) (hl : bs.length = ps.length) : PySem.bindL (fun z => (defScope st).names.lookup z) ((("self" : Str), .ref x) :: ps.zip bs) (fun _ => none) "self" = some (.ref x) ∧
    ∀ f ∈ ps, PySem.bindL (fun z => (defScope st).names.lookup z) ((("self" : Str), .ref x) :: ps.zip bs) (fun _ => none) f = (ps.zip bs).lookup f := by
  have hk : ∀ z ∈ (("self" : Str), Value.ref x) :: ps.zip bs, (fun z => (defScope st).names.lookup z) z.1 = some .local := fun z hz => by
    rcases List.mem_cons.mp hz with e | hz
    · rw [e]
      exact S.slf
    · have q := S.loc
      rw [List.all_eq_true] at q
      have := q _ (List.of_mem_zip (a := z.1) (b := z.2) hz).1
      simpa using this
  have nd : ((("self" : Str), Value.ref x) :: ps.zip bs |>.map (·.1)).Nodup := by
    rw [List.map_cons, map_zip1 ps bs hl]
    exact List.nodup_cons.mpr ⟨S.ns, S.nd⟩
  refine ⟨?_, fun f hf => ?_⟩
  · rw [bindL_at hk nd, List.lookup_cons]
    simp
  · rw [bindL_at hk nd, List.lookup_cons]
    have e : (f == ("self" : Str)) = false := by
      rw [beq_eq_false_iff_ne]
      exact fun z => S.ns (by rw [← z]; exact hf)
    rw [e]
    dsimp only
    cases (ps.zip bs).lookup f <;> rfl
theorem xB_of {C fI : Addr} (h : xB K C fI b ps = true) : XCls K C ∧ XIs K C ∧ keepIn K (.ref C) = true ∧ findIn K (.ref C) "__init__" = some (some (.ref fI)) ∧ typeIn K (.ref fI) = some (.type "function") ∧ ∀ f ∈ ps, findIn K (.ref C) f = some none := by
  simp only [xB, Bool.and_eq_true, decide_eq_true_eq, List.all_eq_true] at h
  obtain ⟨⟨⟨⟨⟨h1, h2⟩, h3⟩, h4⟩, h5⟩, h6⟩ := h
  exact ⟨xcls_of h1, xis_of h2, h3, h4, h5, h6⟩
theorem XT.xp (S : Shp st ps ks p) (h : XT K (cl n) b ps qual st) : XMk K cl n ps [] ps.length gP := by
  obtain ⟨fI, oc, kV, doc, pm, cdv, ct, an, od, osl, lk, hcd, hx⟩ := h
  obtain ⟨T, _, kp, iC, tI, hno⟩ := xB_of hx
  cases hb : defBody st with
  | nil => exact absurd (by rw [← S.nms, hb]; rfl) S.ne
  | cons s0 ss =>
    have e : defBody st = (fldOf s0 :: ss.map fldOf).map stOf := by
      rw [← S.body, hb, List.map_cons, List.map_cons, List.map_map]
      rfl
    have lk' := lk
    rw [e] at lk'
    refine xmk (y := fldOf s0) (fl := ss.map fldOf) (gv := fun us _ => us) (gV := fun vs _ => vs) T kp iC tI lk' hcd S.kind S.co S.gen ?_ S.nd ?_ (by have := S.len; omega) ?_ S.loc S.slf S.bl S.dbg hno (fun vs zs us ws h1 h2 h3 h4 => h1) fun T Z ds es vs zs h1 h2 h3 h4 => h1
    · rw [← S.nms, hb, List.map_cons, List.map_cons, List.map_map]
      rfl
    · have := S.len
      rw [← S.nms, hb] at this
      simp at this ⊢
      omega
    · intro s x us ws h1 h2
      refine ⟨?_, h1⟩
      have ew : ws = [] := List.length_eq_zero_iff.mp h2
      subst ew
      rw [← e]
      exact .of_eq (S.pos "__init__" qual kV doc pm cdv ct an (.ref x) us h1)
theorem XT.xk (S : Shp st ps ks p) (h : XT K (cl n) b ps qual st) : XMk K cl n ps ks 0 (gK p) := by
  obtain ⟨fI, oc, kV, doc, pm, cdv, ct, an, od, osl, lk, hcd, hx⟩ := h
  obtain ⟨T, _, kp, iC, tI, hno⟩ := xB_of hx
  cases hb : defBody st with
  | nil => exact absurd (by rw [← S.nms, hb]; rfl) S.ne
  | cons s0 ss =>
    have e : defBody st = (fldOf s0 :: ss.map fldOf).map stOf := by
      rw [← S.body, hb, List.map_cons, List.map_cons, List.map_map]
      rfl
    have lk' := lk
    rw [e] at lk'
    refine xmk (y := fldOf s0) (fl := ss.map fldOf) (gv := fun _ ws => p.map fun i => ws.getD i .none) (gV := fun _ zs => p.map fun i => zs.getD i .non) T kp iC tI lk' hcd S.kind S.co S.gen ?_ S.nd ?_ (by omega) ?_ S.loc S.slf S.bl S.dbg hno (fun vs zs us ws h1 h2 h3 h4 => vals_map h2 p) fun T Z ds es vs zs h1 h2 h3 h4 => reps_map h2 p
    · rw [← S.nms, hb, List.map_cons, List.map_cons, List.map_map]
      rfl
    · have := S.len
      rw [← S.nms, hb] at this
      simp at this ⊢
      omega
    · intro s x us ws h1 h2
      refine ⟨?_, by rw [List.length_map]; exact S.pl⟩
      have eu : us = [] := List.length_eq_zero_iff.mp h1
      subst eu
      rw [← e]
      exact .of_eq (S.kwd "__init__" qual kV doc pm cdv ct an (.ref x) ws h2)
theorem XT.is (h : XT K (cl n) b ps qual st) : XIs K (cl n) ∧ ∀ f ∈ ps, findIn K (.ref (cl n)) f = some none := by
  obtain ⟨fI, oc, kV, doc, pm, cdv, ct, an, od, osl, lk, hcd, hx⟩ := h
  obtain ⟨_, z, _, _, _, hno⟩ := xB_of hx
  exact ⟨z, hno⟩
/-- a class without __init__ -/
def x0B (K : W.Frag) (C : Addr) (b : Nat) : Bool := xisB K C && keepIn K (.ref C) && excInitIn K C (bmF b) (nwF b) && decide (findIn K (.ref C) "__init__" = some (some (.builtin (inF b))))
theorem x0_of {C : Addr} (h : x0B K C b = true) : XMk0 K C ∧ XIs K C := by
  simp only [x0B, Bool.and_eq_true, decide_eq_true_eq] at h
  obtain ⟨⟨⟨h1, h2⟩, h3⟩, h4⟩ := h
  exact ⟨⟨h2, _, _, _, _, famF b, h3, h4⟩, xis_of h1⟩
end
/-! ### isinstance by the chains alone -/
def mroB (K : W.Frag) (C : Addr) (l : List Value) : Bool := match clsIn K C with
  | some cd => decide (cd.mro = l)
  | none => false
def clsOkB (K : W.Frag) (C : Addr) : Bool := (clsIn K C).isSome && typeIn K (.ref C) == some (.type "type")
theorem sub_of {K : W.Frag} {C : Addr} {a : Value} {l : List Value} (h : mroB K C (a :: l) = true) (v : Value) : subIn K (.ref C) v = some ((a :: l).contains v) := by
  unfold mroB at h
  show mroIn K C v = _
  unfold mroIn
  split at h
  · rename_i cd e
    rw [e, Option.bind_some, of_decide_eq_true h]
    rfl
  · cases h
theorem kit_own {K : W.Frag} {C C' B : Addr} {b : Nat} (h : mroB K C (.ref C :: .ref B :: bmF b) = true) (h' : clsOkB K C' = true) : kitOne K (.ref C) (.ref C') = some (decide (C = C') || decide (B = C')) := by
  unfold kitOne
  have nt : (bmF b).contains (.ref C') = false := match b with
    | 0 => rfl
    | 1 => rfl
    | _ + 2 => rfl
  by_cases e : C = C'
  · subst e
    simp
  · have e1 : (Value.ref C == Value.ref C') = false := by
      rw [beq_eq_false_iff_ne]
      exact fun z => e (by injection z)
    rw [e1]
    simp only [Bool.false_eq_true, if_false]
    show (if ((clsIn K C').isSome && typeIn K (.ref C') == some (.type "type")) = true then subIn K (.ref C) (.ref C') else none) = _
    have h2 : ((clsIn K C').isSome && typeIn K (.ref C') == some (.type "type")) = true := h'
    rw [if_pos h2, sub_of h, List.contains_cons, List.contains_cons, nt]
    have e2 : (Value.ref C' == Value.ref C) = false := by
      rw [beq_eq_false_iff_ne]
      exact fun z => e (by injection z with z; exact z.symm)
    rw [e2, decide_eq_false e]
    by_cases e3 : B = C'
    · subst e3
      simp
    · have e4 : (Value.ref C' == Value.ref B) = false := by
        rw [beq_eq_false_iff_ne]
        exact fun z => e3 (by injection z with z; exact z.symm)
      rw [e4, decide_eq_false e3]
      rfl
theorem kit_bas {K : W.Frag} {C B : Addr} {b : Nat} {n : String} (h : mroB K C (.ref C :: .ref B :: bmF b) = true) (hn : kitMeta n = true) : kitOne K (.ref C) (.type n) = some ((bmF b).contains (.type n)) := by
  unfold kitOne
  have e1 : (Value.ref C == Value.type n) = false := rfl
  rw [e1]
  simp only [Bool.false_eq_true, if_false]
  show (if kitMeta n = true then subIn K (.ref C) (.type n) else none) = _
  rw [if_pos hn, sub_of h, List.contains_cons, List.contains_cons]
  rfl
end DL

set_option Elab.async false
set_option linter.all false
set_option autoImplicit false
set_option maxRecDepth 100000
/-! DL, part q: the laws' draws. -/
namespace DL
open PySem L2

/-! ### what a text makes of data, step by step -/
section
variable {ρ ρ1 ρ2 : Env} {μ μ1 μ2 μ3 : Store} {x y d : D} {xs ds zs : List D} {δ δa δb : DenE} {δs δk : DenA} {t t' : DenT} {b : Bool} {o : Op2} {on : OpN} {m : Mir} {sa sb : DenS} {out : Out} {r : Res D}
theorem ev_var {i : Nat} (h : ρ[i]? = some (some d) := by rfl) : dVar i ρ μ = .ok d μ := by
  unfold dVar
  rw [h]
theorem ev_c : dC d ρ μ = .ok d μ := rfl
theorem ev_bin (h1 : δa ρ μ = .ok x μ1) (h2 : δb ρ μ1 = .ok y μ2) (h3 : o x y μ2 = some d) : dBin o δa δb ρ μ = .ok d μ2 := by
  simp only [dBin, h1, Res.bind, h2, h3, ofO]
theorem ev_nil : dNil ρ μ = .ok [] μ := rfl
theorem ev_cons (h1 : δ ρ μ = .ok x μ1) (h2 : δs ρ μ1 = .ok xs μ2) : dCons δ δs ρ μ = .ok (x :: xs) μ2 := by
  simp only [dCons, h1, Res.bind, h2]
theorem ev_blt (h1 : δs ρ μ = .ok xs μ1) (h3 : on xs μ1 = some d) : dBlt on δs ρ μ = .ok d μ1 := by
  simp only [dBlt, h1, Res.bind, h3, ofO]
theorem ev_un {u : D → Option D} (h1 : δ ρ μ = .ok x μ1) (h3 : u x = some d) : dUn u δ ρ μ = .ok d μ1 := by
  simp only [dUn, h1, Res.bind, h3, ofO]
theorem ev_lst (h1 : δs ρ μ = .ok xs μ1) (h2 : xs.length ≤ sizeLine := by first | decide | simp [sizeLine_eq]) : dLst δs ρ μ = .ok (.lst xs) μ1 := by
  simp only [dLst, h1, Res.bind, kLst, if_pos h2]
theorem ev_tup (h1 : δs ρ μ = .ok xs μ1) (h2 : xs.length ≤ sizeLine := by first | decide | simp [sizeLine_eq]) : dTup δs ρ μ = .ok (.tup xs) μ1 := by
  simp only [dTup, h1, Res.bind, kTup, if_pos h2]
theorem ev_lstM (h1 : δs ρ μ = .ok xs μ1) (h2 : xs.length ≤ sizeLine := by first | decide | simp [sizeLine_eq]) : dLstM δs ρ μ = .ok (.loc μ1.length) (μ1 ++ [some (.lst xs)]) := by
  simp only [dLstM, h1, Res.bind, kLstM, if_pos h2]
theorem ev_call {np : Nat} (h1 : δs ρ μ = .ok ds μ1) (h2 : m ds μ1 = r) (hl : ds.length = np := by rfl) : dCallK np 0 (fun ds _ => ds) m δs dNil ρ μ = r := by
  simp only [dCallK, h1, Res.bind, dNil, hl, List.length_nil, and_self, if_true, h2]
theorem ev_ifT (h : t ρ μ = .ok true μ1) (h1 : δa ρ μ1 = r) : dIf t δa δb ρ μ = r := by
  simp only [dIf, h, Res.bind, if_true, h1]
theorem ev_ifF (h : t ρ μ = .ok false μ1) (h1 : δb ρ μ1 = r) : dIf t δa δb ρ μ = r := by
  simp only [dIf, h, Res.bind, Bool.false_eq_true, if_false, h1]
theorem ev_isB (h : δ ρ μ = .ok (.bl b) μ1) : dIsB δ ρ μ = .ok b μ1 := by
  simp only [dIsB, h, Res.bind]
theorem ev_tru (h : δ ρ μ = .ok d μ1) (h2 : truD μ1 d = some b) : dTru δ ρ μ = .ok b μ1 := by
  simp only [dTru, h, Res.bind, h2, ofO]
theorem ev_notT (h : t ρ μ = .ok b μ1) : dNotT t ρ μ = .ok (!b) μ1 := by
  simp only [dNotT, h, Res.bind]
theorem ev_orF (h : t ρ μ = .ok false μ1) (h2 : t' ρ μ1 = .ok b μ2) : dOrT t t' ρ μ = .ok b μ2 := by
  simp only [dOrT, h, Res.bind, Bool.false_eq_true, if_false, h2]
theorem ev_orT (h : t ρ μ = .ok true μ1) : dOrT t t' ρ μ = .ok true μ1 := by
  simp only [dOrT, h, Res.bind, if_true]
theorem ev_andT (h : t ρ μ = .ok true μ1) (h2 : t' ρ μ1 = .ok b μ2) : dAndT t t' ρ μ = .ok b μ2 := by
  simp only [dAndT, h, Res.bind, if_true, h2]
theorem ev_andF (h : t ρ μ = .ok false μ1) : dAndT t t' ρ μ = .ok false μ1 := by
  simp only [dAndT, h, Res.bind, Bool.false_eq_true, if_false]
theorem ev_andV (h : δa ρ μ = .ok (.bl true) μ1) (h2 : δb ρ μ1 = r) : dAndV δa δb ρ μ = r := by
  simp only [dAndV, h, Res.bind, if_true, h2]
theorem sv_seq (h1 : sa ρ μ = .nx ρ1 μ1) (h2 : sb ρ1 μ1 = out) : sSeq sa sb ρ μ = out := by
  simp only [sSeq, h1, h2]
theorem sv_ret (h : δ ρ μ = .ok d μ1) : sRet δ ρ μ = .rt d μ1 := by
  simp only [sRet, h, bindS]
theorem sv_set {i : Nat} (h : δ ρ μ = .ok d μ1) : sSet i δ ρ μ = .nx (ρ.set i (some d)) μ1 := by
  simp only [sSet, h, bindS]
theorem sv_ifT (h : t ρ μ = .ok true μ1) (h1 : sa ρ μ1 = out) : sIf t sa sb ρ μ = out := by
  simp only [sIf, h, bindS, if_true, h1]
theorem sv_ifF (h : t ρ μ = .ok false μ1) (h1 : sb ρ μ1 = out) : sIf t sa sb ρ μ = out := by
  simp only [sIf, h, bindS, Bool.false_eq_true, if_false, h1]
theorem sv_next : sNext ρ μ = .nx ρ μ := rfl
theorem sv_retE (h1 : sa ρ μ = .rt d μ1) : sSeq sa sb ρ μ = .rt d μ1 := by
  simp only [sSeq, h1]
theorem sv_par2 {i j : Nat} (h : δs ρ μ = .ok [x, y] μ1) : sPar2 i j δs ρ μ = .nx ((ρ.set i (some x)).set j (some y)) μ1 := by
  simp only [sPar2, h, bindS]
theorem sv_par3 {i j l : Nat} (h : δs ρ μ = .ok [x, y, d] μ1) : sPar3 i j l δs ρ μ = .nx (((ρ.set i (some x)).set j (some y)).set l (some d)) μ1 := by
  simp only [sPar3, h, bindS]
theorem sv_asg {γ : DenG} (h : δ ρ μ = .ok d μ1) (h2 : γ d ρ μ1 = .ok ρ1 μ2) : sAsg δ γ ρ μ = .nx ρ1 μ2 := by
  simp only [sAsg, h, bindS, h2]
theorem sv_for {it : DenI} {γ : DenG} {items : List D} (h : it ρ μ = .ok items μ1) (h2 : forL γ sa items ρ μ1 = out) : sFor it γ sa ρ μ = out := by
  simp only [sFor, h, bindS, h2]
theorem ev_lc {own : List Nat} {it : DenI} {γ : DenV} {τ : DenT} {items : List D} (h : it ρ μ = .ok items μ1) (h2 : lcL γ τ δ (wipeD ρ own) items [] μ1 = .ok xs μ2) : dLc own it γ τ δ ρ μ = .ok (.lst xs) μ2 := by
  simp only [dLc, h, Res.bind, h2, kLs]
theorem run_rt {n : Nat} (h : sa (startD n ds) μ = .rt d μ1) : runBody n sa ds μ = .ok d μ1 := by
  simp only [runBody, h]
theorem run_nx {n : Nat} (h : sa (startD n ds) μ = .nx ρ1 μ1) : runBody n sa ds μ = .ok .non μ1 := by
  simp only [runBody, h]
end
theorem add_int (i j : Int) (μ : Store) : addD (.int i) (.int j) μ = some (.int (i + j)) := rfl
theorem sub_int (i j : Int) (μ : Store) : subI (.int i) (.int j) μ = some (.int (i - j)) := rfl
theorem mul_int {i j : Int} (h : mulOk i j = true) (μ : Store) : mulD (.int i) (.int j) μ = some (.int (i * j)) := by
  simp only [mulD, orO, mulI, int2, if_pos h]
theorem mod_int {i j : Int} (h : 0 < j) (μ : Store) : modI (.int i) (.int j) μ = some (.int (i % j)) := by
  simp only [modI, int2, decide_eq_true h, if_true]
theorem div_int {i j : Int} (h : 0 < j ∧ j.natAbs.log2 < 9000) (μ : Store) : divI (.int i) (.int j) μ = some (.int (i / j)) := by
  simp only [divI, int2, decide_eq_true h, if_true]
/-- two ints in a list of the store -/
def At2 (μ : Store) (n : Nat) (x y : Int) : Prop := μ[n]? = some (some (.lst [.int x, .int y]))
theorem At2.lt {μ : Store} {n : Nat} {x y : Int} (h : At2 μ n x y) : n < μ.length := (List.getElem?_eq_some_iff.mp h).1
theorem At2.set {μ : Store} {n : Nat} (h : n < μ.length) (x y : Int) : At2 (μ.set n (some (.lst [.int x, .int y]))) n x y := List.getElem?_set_self h
def drawD (m1 a1 q1 q2 dv : Int) : DenS := sSeq (sIf (dIsB (dBin gtI (dBin ixD (dVar 0) (dC (.int 0))) (dC (.int 0)))) (sSeq (sAsg (dBlt divmodB (dCons (dBin ixD (dVar 0) (dC (.int 0))) (dCons (dVar 1) (dNil)))) (gTupD 2 (gsCons (gSubD (dVar 0) (dC (.int 0))) (gsCons (gSet 2) (gsNil))))) (sRet (dVar 2))) (sNext))
  (sSeq (sAsg (dBin modI (dBlt intB (dCons (dBin addD (dBin mulD (dBin ixD (dVar 0) (dC (.int 1))) (dC (.int m1))) (dC (.int a1))) (dNil))) (dC (.int q1))) (gSubD (dVar 0) (dC (.int 1)))) (sRet (dBin modI (dBlt intB (dCons (dBin divI (dBin modI (dBlt intB (dCons (dBin mulD (dBin ixD (dVar 0) (dC (.int 1))) (dBin ixD (dVar 0) (dC (.int 1)))) (dNil))) (dC (.int q2))) (dC (.int dv))) (dNil))) (dVar 1))))
theorem ix0 (x y : Int) : L2.atI [D.int x, D.int y] 0 = some (.int x) := rfl
theorem ix1 (x y : Int) : L2.atI [D.int x, D.int y] 1 = some (.int y) := rfl
theorem mulOk_lt {i j : Int} (h1 : 0 ≤ i) (h2 : i < 2 ^ 64) : mulOk i j = true := by
  unfold mulOk
  rw [decide_eq_true (.inl ⟨by omega, h2⟩)]
  rfl
structure DrawC (m1 a1 q1 q2 dv : Int) : Prop where
  q1 : 0 < q1 ∧ q1 < 2 ^ 60
  q2 : 0 < q2
  dv : 0 < dv ∧ dv.natAbs.log2 < 9000
theorem draw_ok {m1 a1 q1 q2 dv : Int} (C : DrawC m1 a1 q1 q2 dv) {μ : Store} {n : Nat} {x y k : Int} (h : At2 μ n x y) (hx : 0 ≤ x) (hy : 0 ≤ y ∧ y < 2 ^ 60) (hk : 0 < k ∧ k < 1073741824) :
    ∃ d x' y', runBody 3 (drawD m1 a1 q1 q2 dv) [.loc n, .int k] μ = .ok (.int d) (μ.set n (some (.lst [.int x', .int y']))) ∧ 0 ≤ d ∧ d < k ∧ 0 ≤ x' ∧ 0 ≤ y' ∧ y' < 2 ^ 60 := by
  have hn := h.lt
  have e0 : ∀ {u v : Int} {μ : Store}, At2 μ n u v → dBin ixD (dVar 0) (dC (.int 0)) [some (.loc n), some (.int k), none] μ = .ok (.int u) μ := fun {u v μ} h => by
    simp only [dBin, dVar, dC, Res.bind, ixD, asS, List.getElem?_cons_zero, h, ix0, ofO]
    rw [show μ[n]? = some (some (.lst [.int u, .int v])) from h]
    rfl
  have e1 : ∀ {u v : Int} {μ : Store}, At2 μ n u v → dBin ixD (dVar 0) (dC (.int 1)) [some (.loc n), some (.int k), none] μ = .ok (.int v) μ := fun {u v μ} h => by
    simp only [dBin, dVar, dC, Res.bind, ixD, asS, List.getElem?_cons_zero, h, ix0, ofO]
    rw [show μ[n]? = some (some (.lst [.int u, .int v])) from h]
    rfl
  have eL : ∀ {u v : Int} {μ : Store}, At2 μ n u v → asL μ (.loc n) = some [.int u, .int v] := fun {u v μ} h => by
    simp only [asL]
    rw [show μ[n]? = some (some (.lst [.int u, .int v])) from h]
  have es : startD 3 [.loc n, .int k] = [some (.loc n), some (.int k), none] := rfl
  by_cases hp : 0 < x
  · refine ⟨x % k, x / k, y, ?_, Int.emod_nonneg _ (by omega), Int.emod_lt_of_pos _ hk.1, Int.ediv_nonneg hx (by omega), hy⟩
    unfold runBody drawD
    rw [es]
    simp only [sSeq, sIf, dIsB]
    have t : dBin gtI (dBin ixD (dVar 0) (dC (.int 0))) (dC (.int 0)) [some (.loc n), some (.int k), none] μ = .ok (.bl true) μ := by
      show (dBin ixD (dVar 0) (dC (.int 0)) [some (.loc n), some (.int k), none] μ).bind _ = _
      rw [e0 h]
      simp [Res.bind, dC, gtI, int2, ofO, hp]
    rw [t]
    simp only [Res.bind, bindS, if_true, sAsg]
    have d : dBlt divmodB (dCons (dBin ixD (dVar 0) (dC (.int 0))) (dCons (dVar 1) dNil)) [some (.loc n), some (.int k), none] μ = .ok (.tup [.int (x / k), .int (x % k)]) μ := by
      unfold dBlt
      show Res.bind ((dBin ixD (dVar 0) (dC (.int 0)) [some (.loc n), some (.int k), none] μ).bind _) _ = _
      rw [e0 h]
      simp [Res.bind, dCons, dVar, dNil, divmodB, ofO, hk]
    rw [d]
    simp only [bindS, gTupD, gsCons, gSubD, gSet, gsNil, dVar, dC, Res.bind, List.length_cons, List.length_nil, if_true, List.getElem?_cons_zero, setD, eL h]
    rfl
  · have x0 : x = 0 := by omega
    subst x0
    have hq := C.q1
    have hy1 : 0 ≤ (y * m1 + a1) % q1 ∧ (y * m1 + a1) % q1 < 2 ^ 60 := ⟨Int.emod_nonneg _ (by omega), Int.lt_trans (Int.emod_lt_of_pos _ hq.1) hq.2⟩
    obtain ⟨y1, ey⟩ : ∃ y1, y1 = (y * m1 + a1) % q1 := ⟨_, rfl⟩
    rw [← ey] at hy1
    refine ⟨y1 * y1 % q2 / dv % k, 0, y1, ?_, Int.emod_nonneg _ (by omega), Int.emod_lt_of_pos _ hk.1, Int.le_refl _, hy1⟩
    unfold runBody drawD
    rw [es]
    simp only [sSeq, sIf, dIsB]
    have t : dBin gtI (dBin ixD (dVar 0) (dC (.int 0))) (dC (.int 0)) [some (.loc n), some (.int k), none] μ = .ok (.bl false) μ := by
      show (dBin ixD (dVar 0) (dC (.int 0)) [some (.loc n), some (.int k), none] μ).bind _ = _
      rw [e0 h]
      simp [Res.bind, dC, gtI, int2, ofO]
    rw [t]
    simp only [Res.bind, bindS, if_false, sAsg, sNext, Bool.false_eq_true]
    have d : dBin modI (dBlt intB (dCons (dBin addD (dBin mulD (dBin ixD (dVar 0) (dC (.int 1))) (dC (.int m1))) (dC (.int a1))) dNil)) (dC (.int q1)) [some (.loc n), some (.int k), none] μ = .ok (.int y1) μ := by
      have m : dBin mulD (dBin ixD (dVar 0) (dC (.int 1))) (dC (.int m1)) [some (.loc n), some (.int k), none] μ = .ok (.int (y * m1)) μ := by
        show (dBin ixD (dVar 0) (dC (.int 1)) [some (.loc n), some (.int k), none] μ).bind _ = _
        rw [e1 h]
        simp [Res.bind, dC, mulD, orO, mulI, int2, ofO, mulOk_lt hy.1 (show y < 2 ^ 64 by omega)]
      have p : dBin addD (dBin mulD (dBin ixD (dVar 0) (dC (.int 1))) (dC (.int m1))) (dC (.int a1)) [some (.loc n), some (.int k), none] μ = .ok (.int (y * m1 + a1)) μ := by
        show (dBin mulD (dBin ixD (dVar 0) (dC (.int 1))) (dC (.int m1)) [some (.loc n), some (.int k), none] μ).bind _ = _
        rw [m]
        rfl
      show Res.bind (Res.bind (Res.bind (dBin addD (dBin mulD (dBin ixD (dVar 0) (dC (.int 1))) (dC (.int m1))) (dC (.int a1)) [some (.loc n), some (.int k), none] μ) _) _) _ = _
      rw [p]
      simp [Res.bind, dC, dNil, intB, modI, int2, ofO, hq.1, ey]
    rw [d]
    simp only [bindS, gSubD, dVar, dC, Res.bind, List.getElem?_cons_zero, setD, eL h]
    have ei : ixN [D.int 0, D.int y].length 1 = some 1 := rfl
    simp only [ei, Option.map_some, List.set_cons_succ, List.set_cons_zero]
    have A := At2.set hn 0 y1
    have r : dBin modI (dBlt intB (dCons (dBin divI (dBin modI (dBlt intB (dCons (dBin mulD (dBin ixD (dVar 0) (dC (.int 1))) (dBin ixD (dVar 0) (dC (.int 1)))) dNil)) (dC (.int q2))) (dC (.int dv))) dNil)) (dVar 1) [some (.loc n), some (.int k), none] (μ.set n (some (.lst [.int 0, .int y1]))) = .ok (.int (y1 * y1 % q2 / dv % k)) (μ.set n (some (.lst [.int 0, .int y1]))) := by
      exact ev_bin (ev_blt (ev_cons (ev_bin (ev_bin (ev_blt (ev_cons (ev_bin (e1 A) (e1 A) (mul_int (mulOk_lt hy1.1 (by omega)) _)) ev_nil) rfl) ev_c (mod_int C.q2 _)) ev_c (div_int C.dv _)) ev_nil) rfl) ev_var (mod_int hk.1 _)
    unfold sRet
    rw [r]
    rfl
def rngD : DenS := sSeq (sSet 2 (dIf (dIsB (dBin ltI (dVar 1) (dBlt lenB (dCons (dVar 0) (dNil))))) (dBlt absB (dCons (dBin ixD (dVar 0) (dVar 1)) (dNil))) (dBin addD (dBin mulD (dC (.int 11)) (dVar 1)) (dC (.int 4)))))
  (sRet (dLstM (dCons (dBlt max2B (dCons (dC (.int 0)) (dCons (dBin subI (dVar 2) (dBin powI (dC (.int 10)) (dC (.int 18)))) (dNil)))) (dCons (dBin addD (dBin modI (dBlt intB (dCons (dBin addD (dBin addD (dBin mulD (dBin modI (dBlt intB (dCons (dVar 2) (dNil))) (dC (.int 2147483543))) (dC (.int 39373))) (dBin mulD (dC (.int 52361)) (dVar 1))) (dC (.int 29))) (dNil))) (dC (.int 2147483629))) (dC (.int 1))) (dNil)))))
theorem rng_ok {ns : List Int} {k : Nat} (hk : k < 1000) (μ : Store) : ∃ x y, runBody 3 rngD [.scr (ns.map D.int), .int (k : Int)] μ = .ok (.loc μ.length) (μ ++ [some (.lst [.int x, .int y])]) ∧ 0 ≤ x ∧ 0 ≤ y ∧ y < 2 ^ 60 := by
  have es : startD 3 [.scr (ns.map D.int), .int (k : Int)] = [some (.scr (ns.map D.int)), some (.int (k : Int)), none] := rfl
  have c : ∃ z : Int, 0 ≤ z ∧ dIf (dIsB (dBin ltI (dVar 1) (dBlt lenB (dCons (dVar 0) (dNil))))) (dBlt absB (dCons (dBin ixD (dVar 0) (dVar 1)) (dNil))) (dBin addD (dBin mulD (dC (.int 11)) (dVar 1)) (dC (.int 4))) [some (.scr (ns.map D.int)), some (.int (k : Int)), none] μ = .ok (.int z) μ := by
    have t : dIsB (dBin ltI (dVar 1) (dBlt lenB (dCons (dVar 0) (dNil)))) [some (.scr (ns.map D.int)), some (.int (k : Int)), none] μ = .ok (decide ((k : Int) < (ns.length : Int))) μ := by
      simp [dIsB, dBin, dVar, dBlt, dCons, dNil, Res.bind, lenB, asS, ofO, ltI, int2]
    unfold dIf
    rw [t]
    simp only [Res.bind]
    by_cases h : (k : Int) < (ns.length : Int)
    · have hk' : k < ns.length := by omega
      rw [if_pos (decide_eq_true h)]
      refine ⟨if ns[k] < 0 then -ns[k] else ns[k], ?_, ?_⟩
      · split <;> omega
      · have e : L2.atI (ns.map D.int) (k : Int) = some (.int ns[k]) := by
          unfold L2.atI
          have q : ixN (ns.map D.int).length (k : Int) = some k := by
            rw [List.length_map]
            unfold ixN
            simp
            omega
          rw [q]
          simp [hk']
        simp [dBin, dVar, dBlt, dCons, dNil, Res.bind, ixD, asS, ofO, e, absB]
    · rw [if_neg (by simpa using h)]
      refine ⟨11 * (k : Int) + 4, by omega, ?_⟩
      simp [dBin, dVar, dC, Res.bind, mulD, orO, mulI, addD, addI, int2, ofO, mulOk_lt]
  obtain ⟨z, hz, c⟩ := c
  refine ⟨if z - 10 ^ 18 > 0 then z - 10 ^ 18 else 0, (z % 2147483543 * 39373 + 52361 * (k : Int) + 29) % 2147483629 + 1, ?_, ?_, ?_, ?_⟩
  · unfold runBody rngD
    rw [es]
    simp only [sSeq, sSet]
    rw [c]
    simp only [bindS]
    have m1 : mulOk (z % 2147483543) 39373 = true := mulOk_lt (Int.emod_nonneg _ (by omega)) (Int.lt_trans (Int.emod_lt_of_pos _ (by omega)) (by decide))
    have m2 : mulOk 52361 (k : Int) = true := mulOk_lt (by decide) (by decide)
    have p : powI (.int 10) (.int 18) = fun _ => some (.int (10 ^ 18)) := by
      funext μ
      rfl
    simp [sRet, dLstM, dCons, dNil, dBlt, dBin, dC, dVar, Res.bind, max2B, subI, p, ofO, addD, mulD, orO, addI, mulI, modI, intB, int2, m1, m2, bindS, kLstM, sizeLine_eq]
  · split <;> omega
  · have := Int.emod_nonneg (z % 2147483543 * 39373 + 52361 * (k : Int) + 29) (show (2147483629 : Int) ≠ 0 by decide)
    omega
  · have := Int.emod_lt_of_pos (z % 2147483543 * 39373 + 52361 * (k : Int) + 29) (show (0 : Int) < 2147483629 by decide)
    omega
/-- the store holds a pot at n -/
def Pot (μ : Store) (n : Nat) : Prop := ∃ x y, At2 μ n x y ∧ 0 ≤ x ∧ 0 ≤ y ∧ y < 2 ^ 60
theorem pot_draw {m1 a1 q1 q2 dv : Int} (C : DrawC m1 a1 q1 q2 dv) {μ : Store} {n : Nat} {k : Int} (h : Pot μ n) (hk : 0 < k ∧ k < 1073741824) : ∃ d μ', runBody 3 (drawD m1 a1 q1 q2 dv) [.loc n, .int k] μ = .ok (.int d) μ' ∧ 0 ≤ d ∧ d < k ∧ Pot μ' n := by
  obtain ⟨x, y, h, hx, hy⟩ := h
  obtain ⟨d, x', y', e, h1, h2, h3, h4⟩ := draw_ok C h hx hy hk
  exact ⟨d, _, e, h1, h2, x', y', At2.set h.lt x' y', h3, h4⟩
theorem rng_pot {ns : List Int} {k : Nat} (hk : k < 1000) (μ : Store) : ∃ μ', runBody 3 rngD [.scr (ns.map D.int), .int (k : Int)] μ = .ok (.loc μ.length) μ' ∧ Pot μ' μ.length := by
  obtain ⟨x, y, e, h⟩ := rng_ok (ns := ns) hk μ
  exact ⟨_, e, x, y, by unfold At2; simp, h⟩
/-- the choice of one of some data -/
theorem pot_choice {m1 a1 q1 q2 dv : Int} (C : DrawC m1 a1 q1 q2 dv) {μ : Store} {n : Nat} {xs : List D} (h : Pot μ n) (hk : 0 < xs.length ∧ xs.length < 1073741824) :
    ∃ d μ', runBody 2 (sRet (dBin ixD (dVar 1) (dCallK 2 0 (fun ds _ => ds) (runBody 3 (drawD m1 a1 q1 q2 dv)) (dCons (dVar 0) (dCons (dBlt lenB (dCons (dVar 1) (dNil))) (dNil))) dNil))) [.loc n, .lst xs] μ = .ok d μ' ∧ d ∈ xs ∧ Pot μ' n := by
  obtain ⟨i, μ', e, h1, h2, hP⟩ := pot_draw C h (k := (xs.length : Int)) (by omega)
  obtain ⟨j, rfl⟩ : ∃ j : Nat, i = (j : Int) := ⟨i.toNat, by omega⟩
  have hj : j < xs.length := by omega
  refine ⟨xs[j], μ', ?_, List.getElem_mem hj, hP⟩
  have es : startD 2 [.loc n, .lst xs] = [some (.loc n), some (.lst xs)] := rfl
  show (match bindS (dBin ixD (dVar 1) (dCallK 2 0 (fun ds _ => ds) (runBody 3 (drawD m1 a1 q1 q2 dv)) (dCons (dVar 0) (dCons (dBlt lenB (dCons (dVar 1) (dNil))) (dNil))) dNil) (startD 2 [.loc n, .lst xs]) μ) _ _ with | .nx _ μ1 => _ | .rt d μ1 => _ | .exc C fs _ μ1 => _ | _ => _) = _
  rw [es]
  have q : ixN xs.length (j : Int) = some j := by
    unfold ixN
    simp
    omega
  have ea : L2.atI xs (j : Int) = some xs[j] := by
    unfold L2.atI
    rw [q]
    simp [hj]
  have c : dCallK 2 0 (fun ds _ => ds) (runBody 3 (drawD m1 a1 q1 q2 dv)) (dCons (dVar 0) (dCons (dBlt lenB (dCons (dVar 1) (dNil))) (dNil))) dNil [some (.loc n), some (.lst xs)] μ = .ok (.int (j : Int)) μ' := by
    rw [← e]
    simp [dCallK, dCons, dNil, dVar, dBlt, Res.bind, lenB, asS, ofO]
  rw [ev_bin (o := ixD) (d := xs[j]) (ev_var (d := .lst xs)) c (by simp only [ixD, asS, ea])]
  rfl
end DL

set_option Elab.async false
set_option linter.all false
set_option autoImplicit false
set_option maxRecDepth 100000
/-! DL, part o: the head by one run, its facts by one Bool. -/
namespace DL
open PySem L2 PySem.Spec PyProof.Rows

/-- what the run tells: the facts B of what the module's names reach, and each def as it stands -/
def tellB (B : W.Frag → Bool) (fn : List He.DefD) (K : W.Frag) : Bool × List He.FnW := (B K && fn.all (He.DefD.ok K), fn.map fun d => He.fnW K d.at_)
def wantB (fn : List He.DefD) : Bool × List He.FnW := (true, fn.map He.DefD.val)
def readB (n : Nat) (B : W.Frag → Bool) (fn : List He.DefD) (g : Addr → Option Obj) : Bool × List He.FnW := tellB B fn (He.frG g (He.asD g n))
def hookB (n : Nat) (B : W.Frag → Bool) (fn : List He.DefD) : W.Hook where
  α := Bool × List He.FnW
  obs := fun s => readB n B fn s.heap.get?
  val := fun _ => wantB fn
  says := fun _ h => ∃ K : W.Frag, K.In h ∧ tellB B fn K = wantB fn
  of := fun _ _ e => ⟨_, He.frG_in, e⟩
  keeps := fun _ _ _ ⟨K, hK, c⟩ k => ⟨K, hK.keeps k, c⟩
def obB (n : Nat) (B : W.Frag → Bool) (fn : List He.DefD) (s : W.SharedT) : Bool × List He.FnW := readB n B fn (HandSHeadRun.getT s)
theorem obB_eq (n : Nat) (B : W.Frag → Bool) (fn : List He.DefD) (s : W.SharedT) : obB n B fn s = (hookB n B fn).obs s.abs := by
  have e : HandSHeadRun.getT s = s.abs.heap.get? := funext (HandSHeadRun.getT_eq s)
  show readB n B fn (HandSHeadRun.getT s) = readB n B fn s.abs.heap.get?
  rw [e]
section
variable {B : W.Frag → Bool} {fn : List He.DefD} {K : W.Frag}
theorem told (c : tellB B fn K = wantB fn) : B K = true := (Bool.and_eq_true_iff.mp (congrArg Prod.fst c)).1
/-- a def of no default, as it stands -/
theorem def_at (c : tellB B fn K = wantB fn) (i : Nat) {d : He.DefD} (h : fn[i]? = some d) (hd : d.dfl = []) :
    ∃ (oc : Value) (od : Option Addr) (kV doc pm : Value) (an : Option Addr) (cdv ct : Value) (osl : Array (Option Value)),
      K.lookup (He.fAd K d.at_) = some ⟨oc, od, .func (W.fnOf d.name d.qual d.params d.body d.scope .none kV doc pm an cdv ct), osl⟩ ∧ W.codeIn K cdv d.qual = true ∧ W.keepIn K (.ref (He.fAd K d.at_)) = true := by
  have c1 := List.all_eq_true.mp (Bool.and_eq_true_iff.mp (congrArg Prod.fst c)).2 d (List.mem_of_getElem? h)
  have e : (fn.map fun d => He.fnW K d.at_)[i]? = (fn.map He.DefD.val)[i]? := congrArg (·[i]?) (congrArg Prod.snd c)
  rw [List.getElem?_map, List.getElem?_map, h] at e
  obtain ⟨fd, ⟨oc, od, dV, kV, doc, pm, an, cdv, ct, osl, rfl, lk, hcd, hdv, _⟩, kp⟩ := He.DefD.funD (Option.some.inj e) c1
  rcases hdv with ⟨_, rfl⟩ | ⟨z, _⟩
  · exact ⟨oc, od, kV, doc, pm, an, cdv, ct, osl, lk, hcd, kp⟩
  · exact absurd (show List.map (He.Dv.v K) d.dfl = [] by rw [hd]; rfl) z
end
/-- what is left of a law behind the head -/
theorem walk_e {l : W.OpenLaw} {n k : Nat} {q : Program} {loose : List Str} {XP : (Str → Option Value) → Heap → Prop} {YP : World → Heap → Prop} {d : DefRec} {x : Str} {m : Mir}
    (hn : l.most = some n) (hn2 : n ≤ sizeLine) (hdf : d.params.defaults = []) (hr : Room k callerA) (hI : importsNone q = true)
    (F : ∀ (w : World) (mg : Str → Option Value) (fa : Addr) (h : Heap), YP w h → h.Ns mainGlobals mg → mg d.name = some (.ref fa) →
      ∃ (K : W.Frag) (fd : FuncData) (cl : Nat → Addr), K.In h ∧ (∀ (s : Shared) (u : Value), BindsTo s fd ⟨[u], []⟩ [(x, u)]) ∧ ∀ base : Heap, K.In base → base.Ns mainGlobals mg → (∃ o, base.get? sysModules = some o) → GnOk l.prog w K mg base k fa fd [x] (spM ⟨K, cl⟩ 1 m))
    (hm : ∀ ns : List Int, ns.length ≤ n → (∀ z ∈ ns, Builtin.Int.intBits z ≤ 1048576) → ∃ μ, m [.scr (ns.map D.int)] [] = .ok (.bl true) μ) :
    W.WalkO q loose XP YP l.row.toRowW d [] (fun f vs => PySem.call f vs) := by
  refine Att.attach_callB hn hdf fun w s₀ s₁ mg mb fa o pm cd doc a vs ns G Y ho hd hcd hmg hobj hints hlen hbits hg => ?_
  obtain ⟨K, fd, cl, KX, hb, hF⟩ := F w mg fa _ Y G.T.g hmg
  exact law_g KX G.T.g G.T.b G.T.builtins G.T.nolimit hg hobj hints (Nat.le_trans hlen hn2) hr (let ⟨mm, z, _⟩ := (G.T.seer hI).mods; ⟨mm, z⟩) hF hb (hm ns hlen hbits)
end DL

set_option Elab.async false
set_option linter.all false
set_option autoImplicit false
set_option maxRecDepth 100000
/-! DL, part n: instances: made, their fields, methods, properties. -/
namespace DL
open PySem L2

/-! ### what was of the store is frozen -/
theorem good_freeze {T : Tab} {Z : Wd} {H : Hp} {μ : Store} (g : Good T Z H μ) {n : Nat} {a : Addr} {m : MO} {o : HO} (hn : Z.f[n]? = some a) (hm : μ[n]? = some (some m)) (ho : H a = some o) :
    Good T (Z.add a o) H (μ.set n none) ∧ Step Z H (Z.add a o) H := by
  have hg := (g.obj n a m hn hm).1
  have l : Le Z (Z.add a o) := Le.add hg
  have ha : a ∈ Z.f := List.mem_of_getElem? hn
  refine ⟨⟨fun b u e => ?_, by rw [List.length_set]; exact g.len, g.inj, g.there, fun k b m' e1 e2 => ?_⟩, l, fun b u e nb => ⟨e, nb, fun z => ?_⟩⟩
  · have e' : upd Z.g a o b = some u := e
    by_cases hb : b = a
    · rw [hb, upd_same] at e'
      rw [hb, ho]
      exact e'
    · rw [upd_ne hb] at e'
      exact g.sub b u e'
  · have hk : n ≠ k := fun z => by
      subst z
      rw [List.getElem?_set_self (by rw [← g.len]; exact (List.getElem?_eq_some_iff.mp hn).1)] at e2
      cases e2
    rw [List.getElem?_set_ne hk] at e2
    obtain ⟨h0, u, h1, h2⟩ := g.obj k b m' e1 e2
    have nb : b ≠ a := fun z => by
      subst z
      exact hk (nodup_at g.inj hn e1)
    exact ⟨by show upd Z.g a o b = none; rw [upd_ne nb]; exact h0, u, h1, h2.mono l⟩
  · show upd Z.g a o b = none
    rw [upd_ne (show b ≠ a from fun q => nb (by rw [q]; exact ha))]
    exact z
theorem Step.new {Z : Wd} {H : Hp} {p : Addr} {o : HO} (h : H p = none) : Step Z H Z (upd H p o) := ⟨Le.refl Z, fun a u e n => ⟨by rw [upd_ne (ne_of_none e h)]; exact e, n, fun q => q⟩⟩
/-- a new instance in the store, its dict beside it -/
theorem good_made {T : Tab} {Z : Wd} {H : Hp} {μ : Store} (g : Good T Z H μ) {x dx : Addr} {c : Nat} (hx : H x = none) (hd : H dx = none) (ne : dx ≠ x) :
    Good T (Z.put x) (upd (upd H dx (.own x)) x (.ins (T.cl c) dx [])) (μ ++ [some (.ins c [])]) ∧ Step Z H (Z.put x) (upd (upd H dx (.own x)) x (.ins (T.cl c) dx [])) := by
  have g1 : Good T Z (upd H dx (.own x)) μ := g.over _ (fun hm => g.there dx hm hd) (g.free hd)
  have hx1 : upd H dx (.own x) x = none := by
    rw [upd_ne (Ne.symm ne)]
    exact hx
  exact ⟨good_put g1 hx1 (.ins .nil), (Step.new hd).trans (Step.put hx1)⟩
theorem put_last {T : Tab} {Z : Wd} {H : Hp} {μ : Store} (g : Good T Z H μ) (x : Addr) : (Z.put x).f[μ.length]? = some x := by
  show (Z.f ++ [x])[μ.length]? = some x
  rw [List.getElem?_append_right (by rw [g.len]; exact Nat.le_refl _), g.len, Nat.sub_self]
  rfl

/-! ### fields -/
/-- the instance and its class -/
def insD (μ : Store) : D → Option (Nat × List (Str × D))
  | .ins c fs => some (c, fs)
  | .loc n => match μ[n]? with
    | some (some (.ins c fs)) => some (c, fs)
    | _ => none
  | _ => none
theorem ins_at {T : Tab} {Z : Wd} {H : Hp} {μ : Store} {d : D} {v : V} {c : Nat} {fs : List (Str × D)} (g : Good T Z H μ) (r : Rep T Z d v) (e : insD μ d = some (c, fs)) : ∃ a dx vs, v = .ref a ∧ H a = some (.ins (T.cl c) dx vs) ∧ RepF T Z fs vs := by
  cases r with
  | ins h q =>
    cases e
    exact ⟨_, _, _, rfl, g.sub _ _ h, q⟩
  | loc h =>
    simp only [insD] at e
    split at e
    · rename_i c' fs' q
      cases e
      obtain ⟨_, o, h1, h2⟩ := g.obj _ _ _ h q
      cases h2 with
      | ins r => exact ⟨_, _, _, rfl, h1, r⟩
    · cases e
  | _ => cases e
theorem repF_none {T : Tab} {Z : Wd} {f : Str} : ∀ {ds : List (Str × D)} {vs : List (Str × V)}, RepF T Z ds vs → ds.lookup f = none → vs.lookup f = none
  | _, _, .nil, _ => rfl
  | _, _, .cons (x := x) h r, e => by
    rw [List.lookup_cons] at e ⊢
    cases q : f == x with
    | true =>
      rw [q] at e
      cases e
    | false =>
      rw [q] at e
      exact repF_none r e
/-- the classes cs: read as instances are read; the name f is none of theirs -/
def FldF (K : W.Frag) (cl : Nat → Addr) (cs : List Nat) (f : Str) : Prop := ∀ k ∈ cs, Cls K (cl k) ∧ NoAttr K (cl k) f
def fldD (cs : List Nat) (f : Str) (x : D) (μ : Store) : Option D := match insD μ x with
  | some (c, fs) => if c ∈ cs then fs.lookup f else none
  | none => none
def dFld (cs : List Nat) (f : Str) (δ : DenE) : DenE := fun ρ μ => (δ ρ μ).bind fun x μ1 => ofO (fldD cs f x μ1) μ1
section
variable {X : Cx} {c : Nat → Addr} {W : WX} {pos p apos : Pos} {e o : Expr} {f : Str} {δ δo δe : DenE} {cs : List Nat}
theorem de_fld (N : FldF X.K c cs f) (hb : attributeBase e f X.env (eval e X.env) = eval e X.env) (h : PE X e (rdE (tb X c) W δ)) : PE X (.Attribute e f pos) (rdE (tb X c) W (dFld cs f δ)) := by
  refine PE.imp (pe_fld h hb) fun σ H Q h => ?_
  obtain ⟨Z, ρ, μ, g, sl, h1⟩ := rd_then (R := Rep (tb X c)) (f := fun _ x μ1 => ofO (fldD cs f x μ1) μ1) h
  refine ⟨Z, ρ, μ, g, sl, post_mono h1 fun v H1 ⟨Z1, ρ1, dx, μ1, g1, s1, r1, q1⟩ => ?_⟩
  cases e1 : insD μ1 dx with
  | none =>
    simp only [fldD, e1, ofO] at q1
    exact False.elim q1
  | some cf =>
    obtain ⟨k, fs⟩ := cf
    by_cases hk : k ∈ cs
    · cases e2 : fs.lookup f with
      | none =>
        simp only [fldD, e1, if_pos hk, e2, ofO] at q1
        exact False.elim q1
      | some d =>
        simp only [fldD, e1, if_pos hk, e2, ofO] at q1
        obtain ⟨a, dd, vs, rfl, ha, rf⟩ := ins_at g1 r1 e1
        obtain ⟨y, hy, ry⟩ := rf.look e2
        exact ⟨a, _, dd, vs, y, rfl, ha, (N k hk).1, (N k hk).2, hy, q1 Z1 H1 y Step.rfl g1 ry⟩
    · simp only [fldD, e1, if_neg hk, ofO] at q1
      exact False.elim q1
def putD (f : Str) (d : D) : List (Str × D) → List (Str × D)
  | [] => [(f, d)]
  | (g, x) :: r => if g = f then (g, d) :: r else (g, x) :: putD f d r
theorem repF_put {T : Tab} {Z : Wd} {d : D} {v : V} (h : Rep T Z d v) : ∀ {ds : List (Str × D)} {vs : List (Str × V)}, RepF T Z ds vs → RepF T Z (putD f d ds) (putF f v vs)
  | _, _, .nil => .cons h .nil
  | _, _, .cons (x := x) h1 r => by
    simp only [putD, putF]
    by_cases e : x = f
    · rw [if_pos e, if_pos e]
      exact .cons h r
    · rw [if_neg e, if_neg e]
      exact .cons h1 (repF_put h r)
theorem repF_len {T : Tab} {Z : Wd} : ∀ {ds : List (Str × D)} {vs : List (Str × V)}, RepF T Z ds vs → ds.length = vs.length
  | _, _, .nil => rfl
  | _, _, .cons _ r => by rw [List.length_cons, List.length_cons, repF_len r]
/-- o.f = e, o an instance of the store -/
def sFldD (cs : List Nat) (f : Str) (δo δe : DenE) : DenS := fun ρ μ => bindS (δe ρ μ) ρ fun d μ1 => bindS (δo ρ μ1) ρ fun x μ2 => match x with
  | .loc n => match μ2[n]? with
    | some (some (.ins c fs)) => if c ∈ cs ∧ fs.length < 1000 then .nx ρ (μ2.set n (some (.ins c (putD f d fs)))) else .bad
    | _ => .bad
  | _ => .bad
theorem swaps_attr {v : Expr} (hv : notComp v = true) (t : Option Expr) (l : Nat) (env : PySem.Env) : swapsWith v t l env = pure false := swaps_of hv _ _ _
theorem ds_fld (N : FldF X.K c cs f) (hn : notComp e = true) (ho : PE X o (rdE (tb X c) W δo)) (he : PE X e (rdE (tb X c) W δe)) : PS X (.Assign [.Attribute o f apos] e pos) (rdS (tb X c) W (sFldD cs f δo δe)) := by
  refine PS.imp (ps_fld ho he (swaps_of hn _ _ _)) fun E σ H ⟨Z, ρ, μ, g, s, q⟩ => ?_
  refine ⟨Z, ρ, μ, g, s, post_mono (post_bindS (R := Rep (tb X c)) s q) fun v H1 ⟨Z1, d, μ1, l, g1, s1, r, q1⟩ => ?_⟩
  refine ⟨Z1, ρ, μ1, g1, s1, post_mono (post_bindS (R := Rep (tb X c)) s1 q1) fun u H2 ⟨Z2, x, μ2, l2, g2, s2, r2, q2⟩ => ?_⟩
  cases x with
  | loc n =>
    cases e2 : μ2[n]? with
    | none =>
      simp only [e2] at q2
      exact False.elim q2
    | some om =>
      cases om with
      | none =>
        simp only [e2] at q2
        exact False.elim q2
      | some mo =>
        cases mo with
        | ins k fs =>
          simp only [e2] at q2
          by_cases hk : k ∈ cs ∧ fs.length < 1000
          · rw [if_pos hk] at q2
            cases r2 with
            | @loc _ a h =>
              obtain ⟨_, ob, h1, h2⟩ := g2.obj _ _ _ h e2
              cases h2 with
              | @ins dd _ _ vs rf =>
                refine ⟨a, _, dd, vs, rfl, h1, (N k hk.1).1, (N k hk.1).2, by rw [← repF_len rf]; exact hk.2, ?_⟩
                exact q2 Z2 _ _ (Step.write h) (good_write g2 h e2 (.ins (repF_put (r.mono l2.le) rf))) s2
          · rw [if_neg hk] at q2
            exact False.elim q2
        | lst _ =>
          simp only [e2] at q2
          exact False.elim q2
        | dic _ =>
          simp only [e2] at q2
          exact False.elim q2
  | _ => exact False.elim q2
end
end DL

set_option Elab.async false
set_option linter.all false
set_option autoImplicit false
set_option maxRecDepth 100000
/-! DL, part m: instances made by their class; methods; properties. -/
namespace DL
open PySem L2

/-- what is made of a new instance at the place n of the store, behind its __init__ -/
def frz (c n : Nat) (r : Res D) : Res D := match r with
  | .ok .non μ => match μ[n]? with
    | some (some (.ins k fs)) => if k = c then .ok (.ins c fs) (μ.set n none) else .bad
    | _ => .bad
  | .exc C fs μ => .exc C fs μ
  | _ => .bad
/-- C(..): np by place, nk by name, g: the parameters, self first -/
def dMake (c np nk : Nat) (g : List D → List D → List D) (m : Mir) (δs δk : DenA) : DenE := fun ρ μ => (δs ρ μ).bind fun ds μ1 => (δk ρ μ1).bind fun zs μ2 =>
  if ds.length = np ∧ zs.length = nk then frz c μ2.length (m (g (.loc μ2.length :: ds) zs) (μ2 ++ [some (.ins c [])])) else .bad
theorem make_guards {A : Around} {C : Addr} {us : List Value} {kw : List (Str × Value)} (h : A.guards = some []) : (A.under (.builtin "type.__call__" ⟨.ref C :: us, kw⟩)).guards = some [] := by
  first | (simp [Around.under, Code.guards, Code.isGuard, guardIds, pushGuards, h]; done) | (unfold Around.under; dsimp only; rw [h]; rfl)
section
variable {X : Cx} {c : Nat → Addr} {W : WX} {pos p apos : Pos} {x : Str} {es : List Expr} {kws : List Keyword} {δs δk : DenA} {k np n : Nat} {f : Addr} {fd : FuncData} {ps : List Str} {m : Mir} {g : List D → List D → List D} {pins : List (Addr × Obj)} {σ : St} {H : Hp} {s : Shared}
/-- the call of a class, its arguments at hand -/
theorem run_mk {us ws : List Value} {vs zs : List V} {Z : Wd} {μ : Store} {ds es' : List D} {ks : List Str} {Q : VK} (M : Mk X.K (c n) f) (F : GnOk X.prog X.w X.K X.mg X.base k f fd ps (spM (tb X c) ps.length m)) (hr : Room (k + 1) X.A) (hG : X.A.guards = some []) (tk : Takes X W)
    (hb : KB (tb X c) fd ps ks (np + 1) g) (I : Inv X pins σ H s) (r1 : Vals vs us) (rz : Vals zs ws) (gd : Good (tb X c) Z H μ) (rd : Reps (tb X c) Z ds vs) (rk : Reps (tb X c) Z es' zs) (h1 : ds.length = np) (h2 : es'.length = ks.length)
    (q : post (tb X c) (Rep (tb X c)) W Z H σ (frz n μ.length (m (g (.loc μ.length :: ds) es') (μ ++ [some (.ins n [])]))) Q) :
    wpAny (model X.prog X.w) X.A (call (.ref (c n)) us (ks.zip ws)) (EP X pins σ Q) X.xe s := by
  have hx : H (s.heap.objs.size + 1) = none := I.hok.fresh (Nat.le_succ _)
  have hd : H s.heap.objs.size = none := I.hok.fresh (Nat.le_refl _)
  have ne : s.heap.objs.size ≠ s.heap.objs.size + 1 := Nat.ne_of_lt (Nat.lt_succ_self _)
  have I2 := Inv.made (C := c n) I
  obtain ⟨g2, st⟩ := good_made (T := tb X c) (c := n) gd hx hd ne
  have hl := put_last gd (s.heap.objs.size + 1)
  have rs : Vals (V.ref (s.heap.objs.size + 1) :: vs) (Value.ref (s.heap.objs.size + 1) :: us) := .cons rfl r1
  obtain ⟨bs, b1, b2, b3⟩ := hb { s with heap := (s.heap.push PySem.W.emptyDict).push (PySem.W.instObj (c n) s.heap.objs.size) } (Value.ref (s.heap.objs.size + 1) :: us) ws I2.kIn (by rw [List.length_cons, ← r1.length, ← rd.length, h1]) (by rw [← rz.length, ← rk.length]; exact h2)
  obtain ⟨bv, v1, v2⟩ := b3 _ zs rs rz
  have rds : Reps (tb X c) (Z.put (s.heap.objs.size + 1)) (.loc μ.length :: ds) (V.ref (s.heap.objs.size + 1) :: vs) := .cons (.loc hl) (rd.mono st.le)
  have hsp : spM (tb X c) ps.length m bv (upd (upd H s.heap.objs.size (.own (s.heap.objs.size + 1))) (s.heap.objs.size + 1) (.ins (c n) s.heap.objs.size [])) (fun v H3 => v = .non ∧ Q (.ref (s.heap.objs.size + 1)) H3) (WE W σ) := by
    refine ⟨by rw [v1.length, b1], _, g (.loc μ.length :: ds) es', _, g2, v2 _ _ _ rds (rk.mono st.le), ?_⟩
    cases er : m (g (.loc μ.length :: ds) es') (μ ++ [some (.ins n [])]) with
    | bad =>
      rw [er] at q
      exact False.elim q
    | exc C fs μ3 =>
      rw [er] at q
      exact fun Z' H' dx l g' ex => q Z' H' dx (st.trans l) g' ex
    | ok d μ3 =>
      rw [er] at q
      cases d with
      | non =>
        simp only [frz] at q
        cases e3 : μ3[μ.length]? with
        | none =>
          rw [e3] at q
          exact False.elim q
        | some om =>
          rw [e3] at q
          cases om with
          | none => exact False.elim q
          | some mo =>
            cases mo with
            | ins c' fs =>
              dsimp only at q
              by_cases hc : c' = n
              · subst hc
                rw [if_pos rfl] at q
                intro Z' H' v l g' rv
                cases rv
                refine ⟨rfl, ?_⟩
                have hf := l.le.f _ _ hl
                obtain ⟨_, o, o1, o2⟩ := g'.obj _ _ _ hf e3
                cases o2 with
                | @ins dd _ _ vs' rf =>
                  obtain ⟨gz, sz⟩ := good_freeze g' hf e3 o1
                  exact q _ _ _ ((st.trans l).trans sz) gz (.ins upd_same (rf.mono sz.le))
              · rw [if_neg hc] at q
                exact False.elim q
            | lst _ => exact False.elim q
            | dic _ => exact False.elim q
      | _ => exact False.elim q
  refine wpAny_call (make_map (f := f) I.kIn M.makes M.init (beq_iff_eq.mp M.fn) (codeAny_mono (F.run _ X.stack _ _ ⟨Value.ref (s.heap.objs.size + 1) :: us, ks.zip ws⟩ bs bv _ (WE W σ) (hr.make (c n) us (ks.zip ws)) (make_guards hG)
    (I2.env0.make (c n) us (ks.zip ws)) b2 v1 hsp) fun r s' hq' => ?_))
  have z := end_of tk (fun _ _ _ q => q) I2 hq'
  cases r with
  | error e => exact z
  | ok fl =>
    cases fl with
    | ret u =>
      obtain ⟨v, H', I3, rv, ev, q3⟩ := z
      subst ev
      exact ⟨rv, ⟨V.ref (s.heap.objs.size + 1), H', I3, rfl, q3⟩⟩
    | next => exact False.elim z
    | brk => exact False.elim z
    | cont => exact False.elim z
/-- C(..) by the class's global name -/
theorem de_make (M : Mk X.K (c n) f) (F : GnOk X.prog X.w X.K X.mg X.base k f fd ps (spM (tb X c) ps.length m)) (hr : Room (k + 1) X.A) (hG : X.A.guards = some []) (tk : Takes X W) (hg : Gl X x) (hm : X.mg x = some (.ref (c n)))
    (hb : KB (tb X c) fd ps (kwNames kws) (np + 1) g) (hdb : (x == ("__debug__" : Str)) = false) (hnil : es = [] → δs = dNil) (hst : es.all notStar = true) (hkn : kws.all (·.arg.isSome) = true) (ha : PA X es (rdA (tb X c) W δs)) (hkw : PK X kws (rdA (tb X c) W δk)) :
    PE X (.Call (.Name x p) es kws pos) (rdE (tb X c) W (dMake n np (kwNames kws).length g m δs δk)) := by
  refine ⟨fun pins s σ H Q I h => ?_⟩
  refine wpAny_Call_Name_kw (ld_glob I hg hm ?_ hdb)
  refine args_run M.kp hnil hst hkn ha hkw I (f := fun ds zs μ2 => if ds.length = np ∧ zs.length = (kwNames kws).length then frz n μ2.length (m (g (.loc μ2.length :: ds) zs) (μ2 ++ [some (.ins n [])])) else .bad) h fun us ws s1 vs zs H1 Z ρ μ ds es' I1 r1 rz gd sl rd rk q => ?_
  by_cases hl : ds.length = np ∧ es'.length = (kwNames kws).length
  · rw [if_pos hl] at q
    exact run_mk M F hr hG tk hb I1 r1 rz gd rd rk hl.1 hl.2 q
  · rw [if_neg hl] at q
    exact False.elim q
/-! ### arguments beside data that is held -/
theorem args_at {α β : Type} {R : Wd → α → β → Prop} {f : List D → List D → Store → Res α} {Q : β → Hp → Prop} {fv : Value} {first : List Value} {Qv : Value → Shared → Prop} {Z0 : Wd} {ρ0 : Env} {μ0 : Store}
    (hk : PySem.W.keepIn X.K fv = true) (hnil : es = [] → δs = dNil) (hst : es.all notStar = true) (hkn : kws.all (·.arg.isSome) = true) (ha : PA X es (rdA (tb X c) W δs)) (hkw : PK X kws (rdA (tb X c) W δk)) (I : Inv X pins σ H s)
    (g0 : Good (tb X c) Z0 H μ0) (s0 : Slots (tb X c) Z0 ρ0 σ) (h : post (tb X c) R W Z0 H σ ((δs ρ0 μ0).bind fun ds μ1 => (δk ρ0 μ1).bind fun zs μ2 => f ds zs μ2) Q)
    (cont : ∀ us ws s1 vs zs H1 Z μ ds ks, Inv X pins σ H1 s1 → Vals vs us → Vals zs ws → Step Z0 H Z H1 → Good (tb X c) Z H1 μ → Reps (tb X c) Z ds vs → Reps (tb X c) Z ks zs → post (tb X c) R W Z H1 σ (f ds ks μ) Q →
      wpAny (model X.prog X.w) X.A (call fv (first ++ us) ((kwNames kws).zip ws)) Qv X.xe s1) :
    wpAny (model X.prog X.w) X.A (callWith pos fv first (backTo pos (starEach es X.env)) (backToKw pos (keywordEach kws X.env))) Qv X.xe s := by
  -- the same reading, what it gives tied to where it began
  have h2 : rdG (tb X c) (fun Z (a : List D × List D) (b : List V × List V) => Reps (tb X c) Z a.1 b.1 ∧ Reps (tb X c) Z a.2 b.2) W (fun ρ μ => (δs ρ μ).bind fun ds μ1 => (δk ρ μ1).bind fun zs μ2 => .ok (ds, zs) μ2) σ H
      (fun b H1 => ∃ Z μ ds ks, Step Z0 H Z H1 ∧ Good (tb X c) Z H1 μ ∧ Reps (tb X c) Z ds b.1 ∧ Reps (tb X c) Z ks b.2 ∧ post (tb X c) R W Z H1 σ (f ds ks μ) Q) := by
    refine ⟨Z0, ρ0, μ0, g0, s0, ?_⟩
    show post _ _ _ _ _ _ ((δs ρ0 μ0).bind fun ds μ1 => (δk ρ0 μ1).bind fun zs μ2 => Res.ok (ds, zs) μ2) _
    cases e1 : δs ρ0 μ0 with
    | bad =>
      rw [e1] at h
      exact False.elim h
    | exc C fs μ =>
      rw [e1] at h
      exact h
    | ok ds μ1 =>
      rw [e1] at h
      show post _ _ _ _ _ _ ((δk ρ0 μ1).bind fun zs μ2 => Res.ok (ds, zs) μ2) _
      have h' : post (tb X c) R W Z0 H σ ((δk ρ0 μ1).bind fun zs μ2 => f ds zs μ2) Q := h
      cases e2 : δk ρ0 μ1 with
      | bad =>
        rw [e2] at h'
        exact False.elim h'
      | exc C fs μ =>
        rw [e2] at h'
        exact h'
      | ok ks μ2 =>
        rw [e2] at h'
        exact fun Z' H' b l g' r => ⟨Z', μ2, ds, ks, l, g', r.1, r.2, post_st l h'⟩
  exact args_run hk hnil hst hkn ha hkw I (f := fun ds zs μ2 => .ok (ds, zs) μ2) h2 fun us ws s1 vs zs H1 Z ρ μ ds ks I1 r1 rz g1 sl1 rd rk q => by
    obtain ⟨Z', μ', ds', ks', l, g', r1', r2', q'⟩ := q Z H1 (vs, zs) Step.rfl g1 ⟨rd, rk⟩
    exact cont us ws s1 vs zs H1 Z' μ' ds' ks' I1 r1 rz l g' r1' r2' q'
/-! ### methods -/
/-- the classes of the table have the method: each its def, its mirror -/
def MethT (X : Cx) (c : Nat → Addr) (k : Nat) (nm : Str) (ks : List Str) (np : Nat) (g : List D → List D → List D) (ms : List (Nat × Mir)) : Prop :=
  ∀ n m, ms.lookup n = some m → ∃ f fd ps, Cls X.K (c n) ∧ Meth X.K (c n) nm f ∧ GnOk X.prog X.w X.K X.mg X.base k f fd ps (spM (tb X c) ps.length m) ∧ KB (tb X c) fd ps ks (np + 1) g
/-- the mirror for a receiver: its class's, if the instance itself has no attribute of the name -/
def recv (nm : Str) (ms : List (Nat × Mir)) (μ : Store) (x : D) : Option Mir := match insD μ x with
  | some (c, fs) => match fs.lookup nm with
    | none => ms.lookup c
    | some _ => none
  | none => none
def dMeth (nm : Str) (np nk : Nat) (g : List D → List D → List D) (ms : List (Nat × Mir)) (δo : DenE) (δs δk : DenA) : DenE := fun ρ μ => (δo ρ μ).bind fun x μ0 => match recv nm ms μ0 x with
  | some m => (δs ρ μ0).bind fun ds μ1 => (δk ρ μ1).bind fun zs μ2 => if ds.length = np ∧ zs.length = nk then m (g (x :: ds) zs) μ2 else .bad
  | none => .bad
theorem recv_at {nm : Str} {ms : List (Nat × Mir)} {μ : Store} {x : D} {m : Mir} (h : recv nm ms μ x = some m) : ∃ n fs, insD μ x = some (n, fs) ∧ fs.lookup nm = none ∧ ms.lookup n = some m := by
  unfold recv at h
  split at h
  · rename_i n fs e
    split at h
    · rename_i e2
      exact ⟨n, fs, e, e2, h⟩
    · cases h
  · cases h
theorem de_meth {o : Expr} {nm : Str} {ms : List (Nat × Mir)} {δo : DenE} {pl : Sem Bool} (M : MethT X c k nm (kwNames kws) np g ms) (hr : Room k X.A) (hG : X.A.guards = some []) (tk : Takes X W) (hnil : es = [] → δs = dNil) (hst : es.all notStar = true) (hkn : kws.all (·.arg.isSome) = true)
    (ho : PE X o (rdE (tb X c) W δo)) (ha : PA X es (rdA (tb X c) W δs)) (hkw : PK X kws (rdA (tb X c) W δk))
    (ht : eval (.Call (.Attribute o nm apos) es kws pos) X.env = (do
      let ov ← eval o X.env
      standAt apos.atName
      let (f, first) ← holding [ov] (getMethod ov nm pl)
      callWith pos f first (backTo pos (starEach es X.env)) (backToKw pos (keywordEach kws X.env)))) :
    PE X (.Call (.Attribute o nm apos) es kws pos) (rdE (tb X c) W (dMeth nm np (kwNames kws).length g ms δo δs δk)) := by
  refine ⟨fun pins s σ H Q I h => ?_⟩
  have h0 : rdE (tb X c) W δo σ H (fun v H1 => ∃ Z ρ x μ, Good (tb X c) Z H1 μ ∧ Slots (tb X c) Z ρ σ ∧ Rep (tb X c) Z x v ∧ post (tb X c) (Rep (tb X c)) W Z H1 σ (match recv nm ms μ x with
    | some m => (δs ρ μ).bind fun ds μ1 => (δk ρ μ1).bind fun zs μ2 => if ds.length = np ∧ zs.length = (kwNames kws).length then m (g (x :: ds) zs) μ2 else .bad
    | none => .bad) Q) := rd_then (R := Rep (tb X c)) (f := fun ρ x μ0 => match recv nm ms μ0 x with
    | some m => (δs ρ μ0).bind fun ds μ1 => (δk ρ μ1).bind fun zs μ2 => if ds.length = np ∧ zs.length = (kwNames kws).length then m (g (x :: ds) zs) μ2 else .bad
    | none => .bad) h
  refine PySem.W.methodCall_KW (pl := pl) (thn (ho.run pins s σ H _ I h0) fun u s1 ⟨v, H1, I1, rv, Z, ρ, x, μ, gd, sl, rx, q⟩ => ?_) ht
  cases er : recv nm ms μ x with
  | none =>
    rw [er] at q
    exact False.elim q
  | some m =>
    rw [er] at q
    dsimp only at q
    obtain ⟨n, fs, e1, e2, e3⟩ := recv_at er
    obtain ⟨a, dx, vs, rfl, hHa, rf⟩ := ins_at gd rx e1
    obtain ⟨f, fd, ps, cl, me, F, hb⟩ := M n m e3
    obtain rfl : u = Value.ref a := rv
    refine getmeth_ok I1 hHa cl me (repF_none rf e2) ?_
    -- the receiver beside the arguments
    refine args_at (first := [.ref a]) me.kp hnil hst hkn ha hkw I1 (R := Rep (tb X c)) (f := fun ds zs μ2 => if ds.length = np ∧ zs.length = (kwNames kws).length then m (g (x :: ds) zs) μ2 else .bad)
      gd sl q fun us ws s2 vs2 zs H2 Z2 μ2 ds es' I2 r1 rz l2 gd2 rd rk q2 => ?_
    by_cases hl : ds.length = np ∧ es'.length = (kwNames kws).length
    · rw [if_pos hl] at q2
      have rs : Vals (V.ref a :: vs2) (Value.ref a :: us) := .cons rfl r1
      obtain ⟨bs, b1, b2, b3⟩ := hb s2 (.ref a :: us) ws I2.kIn (by rw [List.length_cons, ← r1.length, ← rd.length, hl.1]) (by rw [← rz.length, ← rk.length]; exact hl.2)
      obtain ⟨bv, v1, v2⟩ := b3 _ zs rs rz
      refine run_gn (args := ⟨.ref a :: us, (kwNames kws).zip ws⟩) F hr hG tk I2 b2 v1 ⟨by rw [v1.length, b1], Z2, g (x :: ds) es', μ2, gd2, v2 Z2 _ es' (.cons (rx.mono l2.le) rd) rk, ?_⟩
      exact post_w q2 fun _ _ _ z => z
    · rw [if_neg hl] at q2
      exact False.elim q2
end
end DL

set_option Elab.async false
set_option linter.all false
set_option autoImplicit false
set_option maxRecDepth 100000
/-! DL, part l: properties, classmethods, a class held by a name. -/
namespace DL
open PySem L2

theorem no_cx2 {P : Program} {w : World} {st : List PySem.Env} {H : Hp} {s s' : Shared} {e : Value} (h : L2.CX P w st H s (fun _ _ _ => False) e s') : False := by
  obtain ⟨_, _, _, _, _, _, _, _, _, _, _, _, z⟩ := h
  exact z
section
variable {X : Cx} {c : Nat → Addr} {W : WX} {pos p apos : Pos} {x : Str} {es : List Expr} {kws : List Keyword} {δs δk : DenA} {δ : DenE} {k np n : Nat} {f : Addr} {fd : FuncData} {ps : List Str} {m : Mir} {g : List D → List D → List D} {pins : List (Addr × Obj)} {σ : St} {H : Hp} {s : Shared} {e o : Expr} {nm : Str} {ms : List (Nat × Mir)}
/-! ### properties -/
def PropT (X : Cx) (c : Nat → Addr) (k : Nat) (nm : Str) (ms : List (Nat × Mir)) : Prop :=
  ∀ n m, ms.lookup n = some m → ∃ q f fd, Cls X.K (c n) ∧ PropOf X.K (c n) nm q f ∧ GnOk X.prog X.w X.K X.mg X.base k f fd ["self"] (spM (tb X c) 1 m) ∧ Binds X.K fd ["self"] []
def dProp (ms : List (Nat × Mir)) (δ : DenE) : DenE := fun ρ μ => (δ ρ μ).bind fun x μ1 => match (insD μ1 x).bind fun q => ms.lookup q.1 with
  | some m => noX (m [x] μ1)
  | none => .bad
theorem de_prop (M : PropT X c k nm ms) (hr : Room (k + 1) X.A) (hG : X.A.guards = some []) (hab : attributeBase e nm X.env (eval e X.env) = eval e X.env) (h : PE X e (rdE (tb X c) W δ)) : PE X (.Attribute e nm pos) (rdE (tb X c) W (dProp ms δ)) := by
  refine ⟨fun pins s σ H Q I hq => ?_⟩
  obtain ⟨Z, ρ, μ, gd, sl, h1⟩ := rd_then (R := Rep (tb X c)) (f := fun _ x μ1 => (match (insD μ1 x).bind fun q => ms.lookup q.1 with
    | some m => noX (m [x] μ1)
    | none => .bad : Res D)) hq
  refine attr_of hab (thn (h.run pins s σ H _ I ⟨Z, ρ, μ, gd, sl, h1⟩) fun u s1 ⟨v, H1, I1, rv, Z1, ρ1, x, μ1, g1, sl1, rx, q1⟩ => ?_)
  cases e1 : insD μ1 x with
  | none =>
    simp only [e1, Option.bind_none] at q1
    exact False.elim q1
  | some cf =>
    obtain ⟨n, fs⟩ := cf
    simp only [e1, Option.bind_some] at q1
    cases e2 : ms.lookup n with
    | none =>
      rw [e2] at q1
      exact False.elim q1
    | some m =>
      rw [e2] at q1
      dsimp only at q1
      obtain ⟨q, f, fd, cl, hp, F, hb⟩ := M n m e2
      obtain ⟨a, dx, vs, rfl, ea, rf⟩ := ins_at g1 rx e1
      obtain rfl : u = Value.ref a := rv
      obtain ⟨mA, O, _, _, _, _⟩ := ins_get I1.hok ea
      obtain ⟨od, J, _⟩ := O.look
      obtain ⟨rest, hrec⟩ := hp.rec_
      have I2 := I1.tok (s1.toks + 1)
      have hc : (PySem.W.clsIn X.K (c n)).isSome = true := by
        obtain ⟨cd, hc, _⟩ := PySem.W.any_some cl.hd
        rw [hc]
        rfl
      have hbb := hb { s1 with toks := s1.toks + 1 } [.ref a] I2.kIn rfl
      have hsp : spM (tb X c) 1 m [.ref a] H1 Q (fun _ _ _ => False) := ⟨rfl, Z1, [x], μ1, g1, .cons rx .nil, post_noX q1⟩
      refine PySem.W.get_bind I1.kIn J (PySem.W.plainGet_of (cl.get nm)).1 (PySem.W.findObj_data hc hp.at_ hp.get hp.tak) (PySem.W.plainGet_of (cl.get nm)).2 (wpAny_call (PySem.W.prop_get (s := { s1 with toks := s1.toks + 1 }) I1.kIn hrec ?_))
      refine codeAny_mono (F.run X.A.in1 X.stack { s1 with toks := s1.toks + 1 } H1 ⟨[.ref a], []⟩ [.ref a] [.ref a] Q _ hr.in1 hG I2.env0.in1 hbb (.cons rfl .nil) hsp) fun r s' hq => ?_
      cases r with
      | error er => exact False.elim (no_cx2 hq)
      | ok fl =>
        cases fl with
        | ret u =>
          obtain ⟨y, H', I3, ry, q3⟩ := I2.after hq
          show wpAny _ _ (handedOut u) _ _ _
          rw [PySem.W.handedOut_of (handed_of ry)]
          exact wpAny_pure ⟨y, H', I3, ry, q3⟩
        | next => exact False.elim hq
        | brk => exact False.elim hq
        | cont => exact False.elim hq
/-! ### classmethods -/
/-- the same for a thing that is called by another road: P says what the heap must have of it -/
theorem args_runP {α β : Type} {P : Heap → Prop} {R : Wd → α → β → Prop} {pins : List (Addr × Obj)} {σ : St} {H : Hp} {s : Shared} {es : List Expr} {kws : List Keyword} {δs δk : DenA} {f : List D → List D → Store → Res α} {Q : β → Hp → Prop} {fv : Value} {first : List Value} {Qv : Value → Shared → Prop}
    (hk : ∀ h, P h → ∃ k, (k = Keeper.frame ∨ k = Keeper.machine ∨ k = Keeper.boundFrame) ∧ PySem.W.Looks (model X.prog X.w) h (keeperOf fv) k) (hP : ∀ {H : Hp} {s : Shared}, Inv X pins σ H s → P s.heap) (hnil : es = [] → δs = dNil) (hst : es.all notStar = true) (hkn : kws.all (·.arg.isSome) = true) (ha : PA X es (rdA (tb X c) W δs)) (hkw : PK X kws (rdA (tb X c) W δk)) (I : Inv X pins σ H s)
    (h : rdG (tb X c) R W (fun ρ μ => (δs ρ μ).bind fun ds μ1 => (δk ρ μ1).bind fun zs μ2 => f ds zs μ2) σ H Q)
    (cont : ∀ us ws s1 vs zs H1 Z ρ μ ds ks, Inv X pins σ H1 s1 → Vals vs us → Vals zs ws → Good (tb X c) Z H1 μ → Slots (tb X c) Z ρ σ → Reps (tb X c) Z ds vs → Reps (tb X c) Z ks zs → post (tb X c) R W Z H1 σ (f ds ks μ) Q →
      wpAny (model X.prog X.w) X.A (call fv (first ++ us) ((kwNames kws).zip ws)) Qv X.xe s1) :
    wpAny (model X.prog X.w) X.A (callWith pos fv first (backTo pos (starEach es X.env)) (backToKw pos (keywordEach kws X.env))) Qv X.xe s := by
  -- both readings at once
  have hd : rdA (tb X c) W δs σ H (fun vs H1 => ∃ Z ρ ds μ, Good (tb X c) Z H1 μ ∧ Slots (tb X c) Z ρ σ ∧ Reps (tb X c) Z ds vs ∧ post (tb X c) R W Z H1 σ ((δk ρ μ).bind fun zs μ2 => f ds zs μ2) Q) :=
    rd_then (R := Reps (tb X c)) (f := fun ρ ds μ1 => (δk ρ μ1).bind fun zs μ2 => f ds zs μ2) h
  have hkd : ∀ {vs : List V} {H1 : Hp}, (∃ Z ρ ds μ, Good (tb X c) Z H1 μ ∧ Slots (tb X c) Z ρ σ ∧ Reps (tb X c) Z ds vs ∧ post (tb X c) R W Z H1 σ ((δk ρ μ).bind fun zs μ2 => f ds zs μ2) Q) →
      rdA (tb X c) W δk σ H1 (fun zs H2 => ∃ Z ρ μ ds ks, Good (tb X c) Z H2 μ ∧ Slots (tb X c) Z ρ σ ∧ Reps (tb X c) Z ds vs ∧ Reps (tb X c) Z ks zs ∧ post (tb X c) R W Z H2 σ (f ds ks μ) Q) := fun {vs H1} ⟨Z, ρ, ds, μ, g, s, r, q⟩ =>
    ⟨Z, ρ, μ, g, s, post_mono (post_bind (R := Reps (tb X c)) q) fun zs H2 ⟨Z2, ks, μ2, l2, g2, r2, q2⟩ => ⟨Z2, ρ, μ2, ds, ks, g2, s.mono l2.le, r.mono l2.le, r2, q2⟩⟩
  have z : ∀ us s1 vs H1, Inv X pins σ H1 s1 → Vals vs us → (∃ Z ρ ds μ, Good (tb X c) Z H1 μ ∧ Slots (tb X c) Z ρ σ ∧ Reps (tb X c) Z ds vs ∧ post (tb X c) R W Z H1 σ ((δk ρ μ).bind fun zs μ2 => f ds zs μ2) Q) →
      wpAny (model X.prog X.w) X.A (evalAll ((backToKw pos (keywordEach kws X.env)).map (·.2))) (fun ws s2 => P s2.heap ∧ wpAny (model X.prog X.w) X.A (call fv (first ++ us) (((backToKw pos (keywordEach kws X.env)).filterMap (·.1)).zip ws)) Qv X.xe s2) X.xe s1 := by
    intro us s1 vs H1 I1 r1 q1
    refine thn (hkw.run pos pins s1 σ H1 _ I1 (hkd q1)) fun ws s2 ⟨zs, H2, I2, rz, Z, ρ, μ, ds, ks, g, sl, rd, rk, q2⟩ => ⟨hP I2, ?_⟩
    rw [kw_names]
    exact cont us ws s2 vs zs H2 Z ρ μ ds ks I2 r1 rz g sl rd rk q2
  obtain ⟨k1, k2⟩ := kw_all (pos := pos) (env := X.env) hkn
  cases es with
  | cons e es =>
    rw [List.all_cons] at hst
    obtain ⟨h1, h2⟩ := Bool.and_eq_true_iff.mp hst
    have hpl : ((backTo pos (starEach (e :: es) X.env)).any (·.1) || (backToKw pos (keywordEach kws X.env)).any (·.1.isNone)) = false := by
      rw [k2, star_any (by rw [List.all_cons, h1, h2]; rfl)]
      rfl
    exact PySem.W.callWith_of hpl hk (PyProof.Rows.evalArgs_kw2 k1 (thn (ha.run pos pins s σ H _ I hd) fun us s1 ⟨vs, H1, I1, r1, q1⟩ => z us s1 vs H1 I1 r1 q1) (star_cons h1 es X.env))
  | nil =>
    have hpl : ((backTo pos (starEach [] X.env)).any (·.1) || (backToKw pos (keywordEach kws X.env)).any (·.1.isNone)) = false := by
      rw [k2]
      rfl
    refine PySem.W.callWith_of hpl hk (PyProof.Rows.evalArgs_kw2_nil k1 ?_)
    have e := hnil rfl
    subst e
    obtain ⟨Z, ρ, μ, g, sl, q⟩ := hd
    exact z [] s [] H I .nil (q Z H [] Step.rfl g .nil)
/-- C.m(..), m a classmethod of the class n -/
def dCMeth (n np nk : Nat) (g : List D → List D → List D) (m : Mir) (δo : DenE) (δs δk : DenA) : DenE := fun ρ μ => (δo ρ μ).bind fun x μ0 => match x with
  | .cls j => if j = n then (δs ρ μ0).bind fun ds μ1 => (δk ρ μ1).bind fun zs μ2 => (if ds.length = np ∧ zs.length = nk then m (g (.cls n :: ds) zs) μ2 else .bad) else .bad
  | _ => .bad
theorem de_cmeth {δo : DenE} {pl : Sem Bool} {mc : Value} {q : Addr} (r : ClX.CRead X.K (c n) mc) (cm : ClX.CMet X.K (c n) mc nm q f) (F : GnOk X.prog X.w X.K X.mg X.base k f fd ps (spM (tb X c) ps.length m)) (hr : Room k X.A) (hG : X.A.guards = some []) (tk : Takes X W)
    (hb : KB (tb X c) fd ps (kwNames kws) (np + 1) g) (hnil : es = [] → δs = dNil) (hst : es.all notStar = true) (hkn : kws.all (·.arg.isSome) = true)
    (ho : PE X o (rdE (tb X c) W δo)) (ha : PA X es (rdA (tb X c) W δs)) (hkw : PK X kws (rdA (tb X c) W δk))
    (ht : eval (.Call (.Attribute o nm apos) es kws pos) X.env = (do
      let ov ← eval o X.env
      standAt apos.atName
      let (f, first) ← holding [ov] (getMethod ov nm pl)
      callWith pos f first (backTo pos (starEach es X.env)) (backToKw pos (keywordEach kws X.env)))) :
    PE X (.Call (.Attribute o nm apos) es kws pos) (rdE (tb X c) W (dCMeth n np (kwNames kws).length g m δo δs δk)) := by
  refine ⟨fun pins s σ H Q I h => ?_⟩
  have h0 := rd_then (R := Rep (tb X c)) (f := fun ρ x μ0 => (match x with
    | .cls j => if j = n then (δs ρ μ0).bind fun ds μ1 => (δk ρ μ1).bind fun zs μ2 => (if ds.length = np ∧ zs.length = (kwNames kws).length then m (g (.cls n :: ds) zs) μ2 else .bad) else .bad
    | _ => .bad : Res D)) h
  refine PySem.W.methodCall_KW (pl := pl) (thn (ho.run pins s σ H _ I h0) fun u s1 ⟨v, H1, I1, rv, Z, ρ, x, μ, gd, sl, rx, q⟩ => ?_) ht
  cases rx with
  | cls j =>
    dsimp only at q
    by_cases hj : j = n
    · subst hj
      rw [if_pos rfl] at q
      obtain rfl : u = Value.ref (c j) := rv
      refine ClX.getmethcm_ok I1 r cm fun s2 I2 => ?_
      refine args_runP (P := PySem.W.MethP X.K s1.heap.objs.size f (.ref (c j))) (first := []) (R := Rep (tb X c)) (PySem.W.keeps_M cm.fi) (fun J => ⟨ClX.pin_at J, J.kIn⟩) hnil hst hkn ha hkw I2
        (f := fun ds zs μ2 => if ds.length = np ∧ zs.length = (kwNames kws).length then m (g (.cls j :: ds) zs) μ2 else .bad) (Q := Q) ⟨Z, ρ, μ, gd, sl, q⟩ fun us ws s3 vs2 zs H2 Z2 ρ2 μ2 ds es' I3 r1 rz gd2 sl2 rd rk q2 => ?_
      by_cases hl : ds.length = np ∧ es'.length = (kwNames kws).length
      · rw [if_pos hl] at q2
        have rs : Vals (V.ref (c j) :: vs2) (Value.ref (c j) :: us) := .cons rfl r1
        obtain ⟨bs, b1, b2, b3⟩ := hb s3 (.ref (c j) :: us) ws I3.kIn (by rw [List.length_cons, ← r1.length, ← rd.length, hl.1]) (by rw [← rz.length, ← rk.length]; exact hl.2)
        obtain ⟨bv, v1, v2⟩ := b3 _ zs rs rz
        have hsp : spM (tb X c) ps.length m bv H2 Q (WE W σ) := ⟨by rw [v1.length, b1], Z2, g (.cls j :: ds) es', μ2, gd2, v2 Z2 _ es' (.cons (.cls j) rd) rk, post_w q2 fun _ _ _ z => z⟩
        refine thn (Q := EP X ((s1.heap.objs.size, PySem.W.methodObj (.ref f) (.ref (c j))) :: pins) σ Q) (wpAny_call (PySem.W.method_call (ClX.pin_at I3) (codeAny_mono (F.run X.A X.stack s3 H2 ⟨.ref (c j) :: us, (kwNames kws).zip ws⟩ bs bv Q (WE W σ) hr hG I3.env0 b2 v1 hsp) fun r s' hq => ?_))) fun _ _ y => ClX.unpinE y
        have z := end_of tk (fun _ _ _ q => q) I3 hq
        cases r with
        | error e => exact z
        | ok fl =>
          cases fl with
          | ret u => exact z
          | next => exact False.elim z
          | brk => exact False.elim z
          | cont => exact False.elim z
      · rw [if_neg hl] at q2
        exact False.elim q2
    · rw [if_neg hj] at q
      exact False.elim q
  | _ => exact False.elim q
end
end DL

set_option Elab.async false
set_option linter.all false
set_option autoImplicit false
set_option maxRecDepth 100000
/-! DL, part k: kinds of data, isinstance, a class called by a local name. -/
namespace DL
open PySem L2

/-- an own class by its number, a built-in one by its name -/
abbrev Kd := Nat ⊕ String
def kv (c : Nat → Addr) : Kd → Value
  | .inl n => .ref (c n)
  | .inr n => .type n
/-- of which class data is; ci: classes of instances, ce: of exceptions -/
def kindD (ci ce : List Nat) (μ : Store) : D → Option Kd
  | .non => some (.inr "NoneType")
  | .bl _ => some (.inr "bool")
  | .int _ => some (.inr "int")
  | .str _ => some (.inr "str")
  | .lst _ => some (.inr "list")
  | .scr _ => some (.inr "list")
  | .tup _ => some (.inr "tuple")
  | .dic _ => some (.inr "dict")
  | .ins n _ => if n ∈ ci then some (.inl n) else none
  | .exc n _ => if n ∈ ce then some (.inl n) else none
  | .loc n => match μ[n]? with
    | some (some (.lst _)) => some (.inr "list")
    | some (some (.dic _)) => some (.inr "dict")
    | some (some (.ins n _)) => if n ∈ ci then some (.inl n) else none
    | _ => none
  | _ => none
structure KindF (K : W.Frag) (c : Nat → Addr) (ci ce : List Nat) : Prop where
  ins : ∀ n ∈ ci, Cls K (c n) ∧ W.findIn K (.ref (c n)) "__class__" = some (some (.builtin "object.__class__")) ∧ W.mroIn K (c n) (.type "object") = some true
  exc : ∀ n ∈ ce, XIs K (c n)
  hn : W.specialIn K (.builtin "object.__class__") "__get__" = some (some (.builtin "getset_descriptor.__get__"))
  tk : W.takesIn K (.builtin "object.__class__") = some true
section
variable {X : Cx} {c : Nat → Addr} {pins : List (Addr × Obj)} {σ : St} {H : Hp} {s : Shared} {Z : Wd} {μ : Store} {ci ce : List Nat}
theorem kit_d {d : D} {v : V} {u : Value} {k : Kd} (F : KindF X.K c ci ce) (I : Inv X pins σ H s) (g : Good (tb X c) Z H μ) (r : Rep (tb X c) Z d v) (rv : RelV v u) (e : kindD ci ce μ d = some k) :
    ∃ P : Heap → Prop, PySem.W.KitX X.K u (kv c k) P ∧ P s.heap ∧ u ≠ .builtin "__main__.__loader__#opaque" := by
  have own : ∀ {a dx : Addr} {n : Nat} {fs : List (Str × V)}, H a = some (.ins (c n) dx fs) → n ∈ ci → v = .ref a → ∃ P : Heap → Prop, PySem.W.KitX X.K u (.ref (c n)) P ∧ P s.heap ∧ u ≠ .builtin "__main__.__loader__#opaque" := fun {a dx n fs} ha hn ev => by
    subst ev
    obtain ⟨f1, f2, f3⟩ := F.ins n hn
    exact kit_of I rv (.base (.ins ha f1 f2 F.hn F.tk f3))
  cases r with
  | non => cases e; exact kit_of I rv (.base .non)
  | bl b => cases e; exact kit_of I rv (.base (.bl b))
  | int i => cases e; exact kit_of I rv (.base (.int i))
  | str x => cases e; exact kit_of I rv (.base (.str x))
  | lst h _ => cases e; exact kit_of I rv (.base (.lst (g.sub _ _ h)))
  | scr h _ =>
    cases e
    rcases h with (h | ⟨o, h⟩) | ⟨o, its, n, h1, h2, _⟩
    · exact kit_of I rv (.base (.lst (g.sub _ _ h)))
    · exact kit_of I rv (.base (.frz (g.sub _ _ h)))
    · exact kit_of I rv (.kList h1 h2)
  | tup h _ =>
    cases e
    rcases h with (h | ⟨o, h⟩) | ⟨o, its, n, h1, h2, _⟩
    · exact kit_of I rv (.base (.tup (g.sub _ _ h)))
    · exact kit_of I rv (.fTuple (g.sub _ _ h))
    · exact kit_of I rv (.kTuple h1 h2)
  | dic h _ => cases e; exact kit_of I rv (.base (.dK (g.sub _ _ h)))
  | @ins a dx n fs ds h _ =>
    simp only [kindD] at e
    split at e
    · rename_i hn
      cases e
      exact own (g.sub _ _ h) hn rfl
    · cases e
  | @exc a dx n fs ds ha hd _ =>
    simp only [kindD] at e
    split at e
    · rename_i hn
      cases e
      have T := F.exc n hn
      obtain rfl : u = Value.ref a := rv
      obtain ⟨ox, o1, o2, o3, o4⟩ := exc_at I (g.sub _ _ ha)
      obtain ⟨mA, hns, rel⟩ := exd_at I.hok (g.sub _ _ hd)
      obtain ⟨od, e1, e2⟩ := lookIn_ns hns
      have J : PySem.W.InstAt s.heap a ox (c n) (some od) := ⟨o1, o2, o4, by rw [o3]; exact e1⟩
      exact ⟨_, PySem.W.kitx_exc T.cl T.ga T.gt T.ex T.ha T.hn T.tk T.hm, J, fun z => nomatch z⟩
    · cases e
  | @exc0 a n ha =>
    simp only [kindD] at e
    split at e
    · rename_i hn
      cases e
      have T := F.exc n hn
      obtain rfl : u = Value.ref a := rv
      obtain ⟨ox, o1, o2, o3, o4⟩ := exc_at I (g.sub _ _ ha)
      have J : PySem.W.InstAt s.heap a ox (c n) none := ⟨o1, o2, o4, by rw [o3]; exact trivial⟩
      exact ⟨_, PySem.W.kitx_exc T.cl T.ga T.gt T.ex T.ha T.hn T.tk T.hm, J, fun z => nomatch z⟩
    · cases e
  | @loc n a h =>
    simp only [kindD] at e
    split at e
    · rename_i xs q
      cases e
      obtain ⟨_, o, h1, h2⟩ := g.obj _ _ _ h q
      cases h2 with
      | lst r => exact kit_of I rv (.base (.lst h1))
    · rename_i xs q
      cases e
      obtain ⟨_, o, h1, h2⟩ := g.obj _ _ _ h q
      cases h2 with
      | dic r => exact kit_of I rv (.base (.dK h1))
    · rename_i m fs q
      split at e
      · rename_i hn
        cases e
        obtain ⟨_, o, h1, h2⟩ := g.obj _ _ _ h q
        cases h2 with
        | ins r => exact own h1 hn rfl
      · cases e
    · cases e
  | _ => cases e
/-- isinstance(x, C), by the table of what is asked -/
def kdOf : D → Option Kd
  | .cls n => some (.inl n)
  | .ty n => some (.inr n)
  | _ => none
def lookK (τ : List ((Kd × Kd) × Bool)) (a b : Kd) : Option Bool := (τ.find? fun e => decide (e.1.1 = a ∧ e.1.2 = b)).map (·.2)
def isD (ci ce : List Nat) (τ : List ((Kd × Kd) × Bool)) : OpN := fun ds μ => match ds with
  | [x, y] => match kindD ci ce μ x, kdOf y with
    | some a, some b => (lookK τ a b).map .bl
    | _, _ => none
  | _ => none
def TabK (K : W.Frag) (c : Nat → Addr) (τ : List ((Kd × Kd) × Bool)) : Prop := ∀ a b r, lookK τ a b = some r → PySem.W.kitOne K (kv c a) (kv c b) = some r
def tabKB (K : W.Frag) (c : Nat → Addr) (τ : List ((Kd × Kd) × Bool)) : Bool := τ.all fun e => decide (PySem.W.kitOne K (kv c e.1.1) (kv c e.1.2) = some e.2)
theorem lookK_mem {τ : List ((Kd × Kd) × Bool)} {a b : Kd} {r : Bool} (h : lookK τ a b = some r) : ((a, b), r) ∈ τ := by
  unfold lookK at h
  cases e : τ.find? fun e => decide (e.1.1 = a ∧ e.1.2 = b) with
  | none => rw [e] at h; cases h
  | some z =>
    obtain ⟨⟨z1, z2⟩, z3⟩ := z
    rw [e] at h
    cases h
    have q := List.find?_some e
    have q' : z1 = a ∧ z2 = b := of_decide_eq_true q
    obtain ⟨rfl, rfl⟩ := q'
    exact List.mem_of_find?_eq_some e
theorem tabK_of {K : W.Frag} {c : Nat → Addr} {τ : List ((Kd × Kd) × Bool)} (h : tabKB K c τ = true) : TabK K c τ := fun a b r e => by
  have q := List.all_eq_true.mp h _ (lookK_mem e)
  exact of_decide_eq_true q
theorem c_isD {τ : List ((Kd × Kd) × Bool)} (F : KindF X.K c ci ce) (T : TabK X.K c τ) : CallR X (.builtin "isinstance") (rdC (tb X c) (isD ci ce τ)) := by
  intro pins s σ H vs us Q I r h
  obtain ⟨Z, μ, ds, d, g, rd, e, q⟩ := h
  simp only [isD] at e
  split at e
  · rename_i x y
    split at e
    · rename_i a b e1 e2
      cases e3 : lookK τ a b with
      | none => rw [e3] at e; cases e
      | some w =>
        rw [e3] at e
        cases e
        cases rd with
        | cons r1 rd =>
          cases rd with
          | cons r2 rd =>
            cases rd
            cases r with
            | cons u1 r =>
              cases r with
              | cons u2 r =>
                cases r
                obtain ⟨P, K1, p, hx⟩ := kit_d F I g r1 u1 e1
                have eu : ∀ {v2 : V} {w2 : Value}, Rep (tb X c) Z y v2 → RelV v2 w2 → w2 = kv c b := fun {v2 w2} r2 u2 => by
                  cases r2 with
                  | cls n => cases e2; exact u2
                  | ty n => cases e2; exact u2
                  | _ => cases e2
                rw [eu r2 u2]
                exact PySem.W.kia_one K1 I.kIn p (T a b w e3) hx fun tk => ⟨.bl w, H, I.tok tk, rfl, q Z H _ Step.rfl g (.bl w)⟩
    · cases e
  · cases e
end
end DL

set_option Elab.async false
set_option linter.all false
set_option autoImplicit false
set_option maxRecDepth 100000
/-! DL, part p: own operators. -/
namespace DL
open PySem L2 PySem.W PySem.Calls PyProof.Rows

/-- x op b, x an own instance with the operator in its class, b of a built-in class T -/
theorem own_binT {prog : Program} {w : World} {A : Around} {E : Value → Shared → Prop} {s : Shared} {K : W.Frag} {x C f : Addr} {ox : Obj} {od : Option Obj} {T : String} {op : Operator} {b : Value} {fo ro rc : Option Value} {Q : Value → Shared → Prop}
    (X : K.In s.heap) (I : InstAt s.heap x ox C od) (hb : Looks (model prog w) s.heap (typeOf b) (.type T)) (hc : selfFirst K C = true)
    (hs : findIn K (.ref C) (PySem.dunder op.info.2) = some (some (.ref f))) (hf : isFn K (.ref f) = true) (hr : findIn K (.ref C) (dunderR op.info.2) = some rc) (hp : rc = none ∨ ∃ g : Addr, rc = some (.ref g))
    (h1 : findIn K (.type T) (PySem.dunder op.info.2) = some fo) (h2 : findIn K (.type T) (dunderR op.info.2) = some ro) (hsub : subIn K (.type T) (.ref C) = some false)
    (h : wpAny (model prog w) A (call (.ref f) [.ref x, b]) (W.CmpBack Q) E s) : wpAny (model prog w) A (binaryOp op (.ref x) b) Q E s := by
  obtain ⟨cd, rest, e1, e2⟩ := ksp_first hc
  rcases hi : op.info with ⟨sym, nm⟩
  simp only [hi] at hs hr h1 h2
  have go := ksp_try X I hs hf h
  obtain ⟨hh, g, d, tt, os⟩ := s
  have K1 : Looks (model prog w) hh (typeOf (.ref x)) (.ref C) := I.type
  have K2 : Looks (model prog w) hh (typeOf b) (.type T) := hb
  have K3 : Looks (model prog w) hh (fillsNumberSlot (.ref C) nm) true := fills_K X e1 e2 hs
  obtain ⟨right, er⟩ : ∃ z, z = ((fo.isSome && !isSeqSlot fo) || (ro.isSome && !isSeqSlot ro)) := ⟨_, rfl⟩
  have K4 : Looks (model prog w) hh (fillsNumberSlot (.type T) nm) right := by
    rw [er]
    exact ksp_fillsT X h1 h2
  have K5 : Looks (model prog w) hh (isSubtype (.type T) (.ref C)) false := looks_subIn X hsub
  have K6 : Looks (model prog w) hh (numberSlotInPython (.ref C) nm) true := ksp_inPy X hs hr hp
  have K7 : Looks (model prog w) hh (numberSlotInPython (.type T) nm) false := Looks.of_pure rfl
  have K8 : Looks (model prog w) hh (typeLookup (.type T) (dunderR nm)) ro := looks_findIn X h2
  have ne : (Value.ref C == Value.type T) = false := rfl
  simp only [binaryOp, hi]
  refine wpAny_holding (wpAny_bind ?_)
  unfold binaryOp1
  refine wpAny_bind (K1.at (wpAny_bind (K2.at (wpAny_bind (K3.at ?_)))))
  rw [ne]
  simp only [Bool.false_eq_true, if_false]
  cases right
  all_goals
    ksp_lk
    refine wpAny_mono go (fun r s' z => ?_) fun _ _ e => e
    obtain ⟨v, rfl, hq⟩ := z
    ksp_lk
    exact hq
/-! ### operators that may run own code -/
def OpW (X : Cx) (c : Nat → Addr) (W : WX) (f : Value → Value → Sem Value) (F : D → D → Store → Res D) : Prop :=
  ∀ (pins : List (Addr × Obj)) (s : Shared) (σ : L2.St) (H : Hp) (x y : V) (u v : Value) (Z : Wd) (μ : Store) (dx dy : D) (Q : VK), L2.Inv X pins σ H s → RelV x u → RelV y v → Good (tb X c) Z H μ → Rep (tb X c) Z dx x → Rep (tb X c) Z dy y →
    post (tb X c) (Rep (tb X c)) W Z H σ (F dx dy μ) Q → wpAny (model X.prog X.w) X.A (f u v) (EP X pins σ Q) X.xe s
def opF (o : Op2) : D → D → Store → Res D := fun x y μ => ofO (o x y μ) μ
/-- the first, where it has an answer -/
def orF (F F' : D → D → Store → Res D) : D → D → Store → Res D := fun x y μ => match F x y μ with
  | .bad => F' x y μ
  | r => r
def dTwo (F : D → D → Store → Res D) (δa δb : DenE) : DenE := fun ρ μ => (δa ρ μ).bind fun x μ1 => (δb ρ μ1).bind fun y μ2 => F x y μ2
section
variable {X : Cx} {c : Nat → Addr} {W : WX} {f : Value → Value → Sem Value} {F F' : D → D → Store → Res D} {o : Op2} {a b : Expr} {δa δb : DenE} {pos : Pos}
theorem OpW.of (h : OpR X f (rdO (tb X c) o)) : OpW X c W f (opF o) := fun pins s σ H x y u v Z μ dx dy Q I r1 r2 g d1 d2 q => by
  unfold opF at q
  cases e : o dx dy μ with
  | none =>
    rw [e] at q
    exact False.elim q
  | some d =>
    rw [e] at q
    exact h pins s σ H x y u v Q I r1 r2 ⟨Z, μ, dx, dy, d, g, d1, d2, e, q⟩
theorem OpW.or (h : OpW X c W f F) (h' : OpW X c W f F') : OpW X c W f (orF F F') := fun pins s σ H x y u v Z μ dx dy Q I r1 r2 g d1 d2 q => by
  unfold orF at q
  cases e : F dx dy μ with
  | bad =>
    rw [e] at q
    exact h' pins s σ H x y u v Z μ dx dy Q I r1 r2 g d1 d2 q
  | ok d μ1 =>
    rw [e] at q
    exact h pins s σ H x y u v Z μ dx dy Q I r1 r2 g d1 d2 (by rw [e]; exact q)
  | exc C fs μ1 =>
    rw [e] at q
    exact h pins s σ H x y u v Z μ dx dy Q I r1 r2 g d1 d2 (by rw [e]; exact q)
/-- both operands, then the operator -/
theorem two_run (ho : OpW X c W f F) (ha : PE X a (rdE (tb X c) W δa)) (hb : PE X b (rdE (tb X c) W δb)) {pins : List (Addr × Obj)} {s : Shared} {σ : L2.St} {H : Hp} {Q : VK} (I : L2.Inv X pins σ H s) (h : rdE (tb X c) W (dTwo F δa δb) σ H Q) :
    wpAny (model X.prog X.w) X.A (eval a X.env) (fun v s₁ => wpAny (model X.prog X.w) X.A (eval b X.env) (fun u s₂ => wpAny (model X.prog X.w) X.A (f v u) (EP X pins σ Q) X.xe s₂) X.xe s₁) X.xe s := by
  obtain ⟨Z, ρ, μ, g, sl, q⟩ := h
  refine thn (ha.run pins s σ H _ I ⟨Z, ρ, μ, g, sl, post_bind (R := Rep (tb X c)) q⟩) fun u s1 ⟨x, H1, I1, r1, Z1, dx, μ1, l1, g1, d1, q1⟩ => ?_
  refine thn (hb.run pins s1 σ H1 _ I1 ⟨Z1, ρ, μ1, g1, sl.mono l1.le, post_bind (R := Rep (tb X c)) q1⟩) fun v s2 ⟨y, H2, I2, r2, Z2, dy, μ2, l2, g2, d2, q2⟩ => ?_
  exact ho pins s2 σ H2 x y u v Z2 μ2 dx dy Q I2 r1 r2 g2 (d1.mono l2.le) d2 q2
theorem de_two {op : Operator} (ho : OpW X c W (binaryOp op) F) (ha : PE X a (rdE (tb X c) W δa)) (hb : PE X b (rdE (tb X c) W δb)) : PE X (.BinOp a op b pos) (rdE (tb X c) W (dTwo F δa δb)) :=
  ⟨fun _ _ _ _ _ I h => wpAny_BinOp (two_run ho ha hb I h)⟩
theorem de_cmpW {op : CmpOp} (ho : OpW X c W (compareOp op) F) (ha : PE X a (rdE (tb X c) W δa)) (hb : PE X b (rdE (tb X c) W δb)) (hm : behindInMarks op b = false) : PE X (.Compare a [op] [b] pos) (rdE (tb X c) W (dTwo F δa δb)) :=
  ⟨fun _ _ _ _ _ I h => wpAny_Compare1 (two_run ho ha hb I h) hm⟩
end
/-! ### an own operator of a class -/
structure OwnOp (X : Cx) (c : Nat → Addr) (k n np : Nat) (nm : Str) (m : Mir) : Prop where
  cls : Cls X.K (c n)
  ex : ∃ f fd ps, findIn X.K (.ref (c n)) nm = some (some (.ref f)) ∧ isFn X.K (.ref f) = true ∧ GnOk X.prog X.w X.K X.mg X.base k f fd ps (spM (tb X c) ps.length m) ∧ Binds X.K fd ps [] ∧ ps.length = np
theorem back_of {X : Cx} {pins : List (Addr × Obj)} {σ : L2.St} {Q : VK} {u : Value} {s : Shared} (h : EP X pins σ Q u s) : W.CmpBack (EP X pins σ Q) u s := by
  have h0 := h
  obtain ⟨y, H, I, r, q⟩ := h
  unfold W.CmpBack
  split
  · cases y with
    | int _ => obtain ⟨_, z⟩ := r; cases z
    | str _ => obtain ⟨_, z⟩ := r; cases z
    | byt _ => obtain ⟨_, z⟩ := r; cases z
    | flt _ => obtain ⟨_, z⟩ := r; cases z
    | _ => cases r
  · exact h0
section
variable {X : Cx} {c : Nat → Addr} {W : WX} {k n : Nat} {m : Mir} {ci ce : List Nat} {pins : List (Addr × Obj)} {σ : L2.St} {H : Hp} {s : Shared} {Z : Wd} {μ : Store}
/-- the method of the operator, called with data -/
theorem own_run {f : Addr} {fd : FuncData} {ps : List Str} {ds : List D} {vs : List V} {us : List Value} {Q : VK} (F : GnOk X.prog X.w X.K X.mg X.base k f fd ps (spM (tb X c) ps.length m)) (hb : Binds X.K fd ps []) (hl : ds.length = ps.length) (hr : Room k X.A) (hG : X.A.guards = some []) (tk : Takes X W)
    (I : L2.Inv X pins σ H s) (r : Vals vs us) (g : Good (tb X c) Z H μ) (rd : Reps (tb X c) Z ds vs) (q : post (tb X c) (Rep (tb X c)) W Z H σ (m ds μ) Q) : wpAny (model X.prog X.w) X.A (call (.ref f) us) (EP X pins σ Q) X.xe s := by
  have hu : us.length = ps.length := by rw [← r.length, ← rd.length, hl]
  have b := hb s us I.kIn (by rw [List.append_nil]; exact hu)
  rw [List.append_nil] at b
  exact run_gn (args := ⟨us, []⟩) F hr hG tk I b r ⟨by rw [r.length, hu], Z, ds, μ, g, rd, post_w q fun _ _ _ z => z⟩
def ownF (ci ce : List Nat) (n : Nat) (m : Mir) (Ts : List String) : D → D → Store → Res D := fun x y μ => match insD μ x with
  | some (j, _) => if j = n then (match kindD ci ce μ y with
    | some (.inl i) => if i = n then m [x, y] μ else .bad
    | some (.inr T) => if T ∈ Ts then m [x, y] μ else .bad
    | none => .bad) else .bad
  | none => .bad
def BinF (K : PySem.W.Frag) (C : Addr) (op : Operator) (Ts : List String) : Prop := selfFirst K C = true ∧ (∃ rc, findIn K (.ref C) (dunderR op.info.2) = some rc ∧ (rc = none ∨ ∃ g : Addr, rc = some (.ref g))) ∧
  ∀ T ∈ Ts, (∃ fo, findIn K (.type T) (PySem.dunder op.info.2) = some fo) ∧ (∃ ro, findIn K (.type T) (dunderR op.info.2) = some ro) ∧ subIn K (.type T) (.ref C) = some false
theorem ow_bin {op : Operator} {Ts : List String} (O : OwnOp X c k n 2 (PySem.dunder op.info.2) m) (B : BinF X.K (c n) op Ts) (KF : KindF X.K c ci ce) (hr : Room k X.A) (hG : X.A.guards = some []) (tk : Takes X W) : OpW X c W (binaryOp op) (ownF ci ce n m Ts) := by
  intro pins s σ H x y u v Z μ dx dy Q I r1 r2 g d1 d2 q
  obtain ⟨f, fd, ps, hs, hf, F, hb, hl⟩ := O.ex
  obtain ⟨hc, ⟨rc, hrc, hp⟩, hT⟩ := B
  unfold ownF at q
  cases e1 : insD μ dx with
  | none =>
    rw [e1] at q
    exact False.elim q
  | some cf =>
    obtain ⟨j, fs⟩ := cf
    rw [e1] at q
    dsimp only at q
    by_cases hj : j = n
    · subst hj
      rw [if_pos rfl] at q
      obtain ⟨a, dd, vs, rfl, ha, rf⟩ := ins_at g d1 e1
      obtain rfl : u = Value.ref a := r1
      obtain ⟨mA, OM, _, _, _, _⟩ := ins_get I.hok ha
      obtain ⟨od, J, _⟩ := OM.look
      obtain ⟨mF, hF⟩ := I.fr
      have fin : ∀ q' : post (tb X c) (Rep (tb X c)) W Z H σ (m [dx, dy] μ) Q, wpAny (model X.prog X.w) X.A (call (.ref f) [.ref a, v]) (PySem.W.CmpBack (EP X pins σ Q)) X.xe s := fun q' =>
        wpAny_mono (own_run F hb (by rw [hl]; rfl) hr hG tk I (vs := [.ref a, y]) (.cons rfl (.cons r2 .nil)) g (.cons d1 (.cons d2 .nil)) q') (fun _ _ z => back_of z) fun _ _ z => z
      cases e2 : kindD ci ce μ dy with
      | none =>
        rw [e2] at q
        exact False.elim q
      | some kd =>
        obtain ⟨P, KX, p, _⟩ := kit_d KF I g d2 r2 e2
        have L := KX.ty (model X.prog X.w) s.heap I.kIn p
        rw [e2] at q
        cases kd with
        | inl i =>
          dsimp only at q
          by_cases hi : i = j
          · subst hi
            rw [if_pos rfl] at q
            exact binop_K hF I.ok.mod.kin J L hc hs hf (fin q)
          · rw [if_neg hi] at q
            exact False.elim q
        | inr T =>
          dsimp only at q
          by_cases hi : T ∈ Ts
          · rw [if_pos hi] at q
            obtain ⟨⟨fo, t1⟩, ⟨ro, t2⟩, t3⟩ := hT T hi
            exact own_binT I.kIn J L hc hs hf hrc hp t1 t2 t3 (fin q)
          · rw [if_neg hi] at q
            exact False.elim q
    · rw [if_neg hj] at q
      exact False.elim q
/-! ### -x, x == y by own code -/
def UnW (X : Cx) (c : Nat → Addr) (W : WX) (f : Value → Sem Value) (F : D → Store → Res D) : Prop :=
  ∀ (pins : List (Addr × Obj)) (s : Shared) (σ : L2.St) (H : Hp) (x : V) (u : Value) (Z : Wd) (μ : Store) (dx : D) (Q : VK), L2.Inv X pins σ H s → RelV x u → Good (tb X c) Z H μ → Rep (tb X c) Z dx x →
    post (tb X c) (Rep (tb X c)) W Z H σ (F dx μ) Q → wpAny (model X.prog X.w) X.A (f u) (EP X pins σ Q) X.xe s
def dOne (F : D → Store → Res D) (δ : DenE) : DenE := fun ρ μ => (δ ρ μ).bind fun x μ1 => F x μ1
theorem de_unW {op : UnaryOp} {F : D → Store → Res D} {a : Expr} {δ : DenE} {pos : Pos} (ho : UnW X c W (unaryOp op) F) (ha : PE X a (rdE (tb X c) W δ)) : PE X (.UnaryOp op a pos) (rdE (tb X c) W (dOne F δ)) := by
  refine ⟨fun pins s σ H Q I h => ?_⟩
  obtain ⟨Z, ρ, μ, g, sl, q⟩ := h
  exact UnaryOp_ (thn (ha.run pins s σ H _ I ⟨Z, ρ, μ, g, sl, post_bind (R := Rep (tb X c)) q⟩) fun u s1 ⟨x, H1, I1, r1, Z1, dx, μ1, l1, g1, d1, q1⟩ => ho pins s1 σ H1 x u Z1 μ1 dx Q I1 r1 g1 d1 q1)
def negF (n : Nat) (m : Mir) : D → Store → Res D := fun x μ => match insD μ x with
  | some (j, _) => if j = n then m [x] μ else .bad
  | none => ofO (negD x) μ
theorem ow_neg (O : OwnOp X c k n 1 "__neg__" m) (hr : Room k X.A) (hG : X.A.guards = some []) (tk : Takes X W) : UnW X c W (unaryOp .USub) (negF n m) := by
  intro pins s σ H x u Z μ dx Q I r1 g d1 q
  obtain ⟨f, fd, ps, hs, hf, F, hb, hl⟩ := O.ex
  unfold negF at q
  cases e1 : insD μ dx with
  | none =>
    rw [e1] at q
    cases e2 : negD dx with
    | none =>
      rw [e2] at q
      exact False.elim q
    | some d =>
      rw [e2] at q
      cases d1 with
      | int i =>
        cases e2
        exact un_neg pins s σ H (.int i) u Q I r1 ⟨i, rfl, q Z H _ Step.rfl g (.int _)⟩
      | _ => cases e2
  | some cf =>
    obtain ⟨j, fs⟩ := cf
    rw [e1] at q
    dsimp only at q
    by_cases hj : j = n
    · subst hj
      rw [if_pos rfl] at q
      obtain ⟨a, dd, vs, rfl, ha, rf⟩ := ins_at g d1 e1
      obtain rfl : u = Value.ref a := r1
      obtain ⟨mA, OM, _, _, _, _⟩ := ins_get I.hok ha
      obtain ⟨od, J, _⟩ := OM.look
      obtain ⟨mF, hF⟩ := I.fr
      exact ksp_neg hF I.ok.mod.kin J hs hf (own_run F hb (by rw [hl]; rfl) hr hG tk I (vs := [.ref a]) (.cons rfl .nil) g (.cons d1 .nil) q)
    · rw [if_neg hj] at q
      exact False.elim q
/-- x == y, x an instance of the class n with its own == -/
def hasK (kds : List Kd) (kd : Kd) : Bool := kds.any fun z => decide (z = kd)
def eqF (ci ce : List Nat) (n : Nat) (m : Mir) (kds : List Kd) : D → D → Store → Res D := fun x y μ => match insD μ x with
  | some (j, _) => if j = n then (match kindD ci ce μ y with
    | some kd => if hasK kds kd = true then m [x, y] μ else .bad
    | none => .bad) else .bad
  | none => .bad
theorem ow_eq {kds : List Kd} (O : OwnOp X c k n 2 "__eq__" m) (hN : ∀ kd, hasK kds kd = true → notFirst X.K (c n) (kv c kd) = true) (KF : KindF X.K c ci ce) (hr : Room k X.A) (hG : X.A.guards = some []) (tk : Takes X W) : OpW X c W (richCompare .Eq) (eqF ci ce n m kds) := by
  intro pins s σ H x y u v Z μ dx dy Q I r1 r2 g d1 d2 q
  obtain ⟨f, fd, ps, hs, hf, F, hb, hl⟩ := O.ex
  unfold eqF at q
  cases e1 : insD μ dx with
  | none =>
    rw [e1] at q
    exact False.elim q
  | some cf =>
    obtain ⟨j, fs⟩ := cf
    rw [e1] at q
    dsimp only at q
    by_cases hj : j = n
    · subst hj
      rw [if_pos rfl] at q
      obtain ⟨a, dd, vs, rfl, ha, rf⟩ := ins_at g d1 e1
      obtain rfl : u = Value.ref a := r1
      obtain ⟨mA, OM, _, _, _, _⟩ := ins_get I.hok ha
      obtain ⟨od, J, _⟩ := OM.look
      obtain ⟨mF, hF⟩ := I.fr
      cases e2 : kindD ci ce μ dy with
      | none =>
        rw [e2] at q
        exact False.elim q
      | some kd =>
        obtain ⟨P, KX, p, _⟩ := kit_d KF I g d2 r2 e2
        have L := KX.ty (model X.prog X.w) s.heap I.kIn p
        rw [e2] at q
        dsimp only at q
        by_cases hi : hasK kds kd = true
        · rw [if_pos hi] at q
          exact cmp_K (op := .Eq) hr.units0 hF I.ok.mod.kin J L (hN kd hi) hs hf (wpAny_mono (own_run F hb (by rw [hl]; rfl) hr hG tk I (vs := [.ref a, y]) (.cons rfl (.cons r2 .nil)) g (.cons d1 (.cons d2 .nil)) q) (fun _ _ z => back_of z) fun _ _ z => z)
        · rw [if_neg hi] at q
          exact False.elim q
    · rw [if_neg hj] at q
      exact False.elim q
/-! ### cls(..): a class held by a name of the def -/
def dMakeL (i n np nk : Nat) (g : List D → List D → List D) (m : Mir) (δs δk : DenA) : DenE := fun ρ μ => match ρ[i]? with
  | some (some (.cls j)) => if j = n then dMake n np nk g m δs δk ρ μ else .bad
  | _ => .bad
theorem de_makeL {i np : Nat} {x : Str} {f : Addr} {fd : FuncData} {ps : List Str} {g : List D → List D → List D} {es : List Expr} {kws : List Keyword} {δs δk : DenA} {p pos : Pos} (M : Mk X.K (c n) f) (F : GnOk X.prog X.w X.K X.mg X.base k f fd ps (spM (tb X c) ps.length m)) (hr : Room (k + 1) X.A)
    (hG : X.A.guards = some []) (tk : Takes X W) (hN : X.N[i]? = some x) (hv : Vis X.env.scope x) (hb : KB (tb X c) fd ps (kwNames kws) (np + 1) g) (hdb : (x == ("__debug__" : Str)) = false) (hcd : (x == ("__classdict__" : Str)) = false) (hnil : es = [] → δs = dNil) (hst : es.all notStar = true) (hkn : kws.all (·.arg.isSome) = true)
    (ha : PA X es (rdA (tb X c) W δs)) (hkw : PK X kws (rdA (tb X c) W δk)) : PE X (.Call (.Name x p) es kws pos) (rdE (tb X c) W (dMakeL i n np (kwNames kws).length g m δs δk)) := by
  refine ⟨fun pins s σ H Q I h => ?_⟩
  obtain ⟨Z, ρ, μ, gd, sl, q⟩ := h
  unfold dMakeL at q
  split at q
  · rename_i j ei
    by_cases hj : j = n
    · subst hj
      rw [if_pos rfl] at q
      obtain ⟨v, hv1, rv⟩ := sl.2 i _ ei
      cases rv
      refine wpAny_Call_Name_kw (thn ((pe_var (pos := p) hN hv hdb hcd).run pins s σ H (fun v H1 => v = .ref (c j) ∧ H1 = H) I ⟨_, hv1, rfl, rfl⟩) fun u s1 ⟨v, H1, I1, r1, q1⟩ => ?_)
      obtain ⟨rfl, rfl⟩ := q1
      obtain rfl : u = Value.ref (c j) := r1
      refine args_run M.kp hnil hst hkn ha hkw I1 (first := []) (R := Rep (tb X c)) (f := fun ds zs μ2 => if ds.length = np ∧ zs.length = (kwNames kws).length then frz j μ2.length (m (g (.loc μ2.length :: ds) zs) (μ2 ++ [some (MO.ins j [])])) else .bad) (Q := Q) ⟨Z, ρ, μ, gd, sl, q⟩
        fun us ws s2 vs zs H2 Z2 ρ2 μ2 ds es' I2 r1 rz gd2 sl2 rd rk q2 => ?_
      by_cases hl : ds.length = np ∧ es'.length = (kwNames kws).length
      · rw [if_pos hl] at q2
        exact run_mk M F hr hG tk hb I2 r1 rz gd2 rd rk hl.1 hl.2 q2
      · rw [if_neg hl] at q2
        exact False.elim q2
    · rw [if_neg hj] at q
      exact False.elim q
  · exact False.elim q
end
end DL

set_option Elab.async false
set_option linter.all false
set_option autoImplicit false
set_option maxRecDepth 100000
/-! DL, part Ma: own exceptions raised. -/
namespace DL
open PySem L2 PySem.DLX

/-- an error in the air: its class, its dict -/
def RX (c : Nat → Addr) (T : Tab) (Z : Wd) (d : D) (b : Value × Option Addr) : Prop := ∃ n fs, d = .exc n fs ∧ b.1 = .ref (c n) ∧ match b.2 with
  | some dx => ∃ vs, Z.g dx = some (.xd vs) ∧ RepF T Z fs vs
  | none => fs = []
def sRaise (δ : DenE) : DenS := fun ρ μ => bindS (δ ρ μ) ρ fun d μ1 => match d with
  | .exc k fs => .exc k fs ρ μ1
  | _ => .bad
section
variable {X : Cx} {c : Nat → Addr} {W : WX} {pos p pos' : Pos} {x : Str} {es : List Expr} {kws : List Keyword} {δs δk : DenA} {k np j : Nat} {ps : List Str} {g : List D → List D → List D}
/-- what makes an error, raised -/
theorem ds_raise {e : Expr} {δ : DenE} (hc : X.calm = true) (tk : Takes X W) (h : L2.PMk X e (fun σ H Q => rdG (tb X c) (RX c (tb X c)) W δ σ H fun b H' => Q b.1 b.2 H')) : PS X (.Raise (some e) none pos) (rdS (tb X c) W (sRaise δ)) := by
  refine PS.imp (L2.ps_raise hc tk h) fun E σ H ⟨Z, ρ, μ, gd, sl, q⟩ => ?_
  refine ⟨Z, ρ, μ, gd, sl, ?_⟩
  unfold sRaise at q
  cases e1 : δ ρ μ with
  | bad =>
    rw [e1] at q
    exact False.elim q
  | exc C fs μ1 =>
    rw [e1] at q
    exact fun Z' H' dx l g' ex => q Z' H' σ dx l g' (sl.mono l.le) ex
  | ok d μ1 =>
    rw [e1] at q
    cases d with
    | exc n fs =>
      intro Z' H' b l g' r
      obtain ⟨n', fs', ed, eb, ex⟩ := r
      cases ed
      obtain ⟨b1, b2⟩ := b
      dsimp only at eb ex ⊢
      subst eb
      refine q Z' H' σ b2 l g' (sl.mono l.le) ?_
      cases b2 with
      | none => exact ex
      | some dx =>
        obtain ⟨vs, h1, h2⟩ := ex
        exact ⟨vs, g'.sub _ _ h1, h2⟩
    | _ => exact False.elim q
theorem pmk_exc (M : XMk X.K c k ps (kwNames kws) np g) (R : Raises X (.ref (c k))) (hr : Room j X.A) (hg : Gl X x) (hm : X.mg x = some (.ref (c k))) (hdb : (x == ("__debug__" : Str)) = false) (hnil : es = [] → δs = dNil) (hst : es.all notStar = true) (hkn : kws.all (·.arg.isSome) = true)
    (ha : PA X es (rdA (tb X c) W δs)) (hkw : PK X kws (rdA (tb X c) W δk)) :
    L2.PMk X (.Call (.Name x p) es kws pos) (fun σ H Q => rdG (tb X c) (RX c (tb X c)) W (dExc k np (kwNames kws).length ps g δs δk) σ H fun b H' => Q b.1 b.2 H') := by
  intro pins s σ H Q I h
  refine wpAny_Call_Name_kw (ld_glob I hg hm ?_ hdb)
  refine args_run (first := []) (R := RX c (tb X c)) M.kp hnil hst hkn ha hkw I (f := fun ds zs μ2 => if ds.length = np ∧ zs.length = (kwNames kws).length then Res.ok (D.exc k (ps.zip (g ds zs)).reverse) μ2 else .bad) (Q := fun b H' => Q b.1 b.2 H') h
    fun us ws s1 vs zs H1 Z ρ μ ds es' I1 r1 rz gd sl rd rk q => ?_
  by_cases hl : ds.length = np ∧ es'.length = (kwNames kws).length
  · rw [if_pos hl] at q
    have lim := I1.nolimit
    refine wpAny_call (M.run us ws I1.kIn lim (by have := hr.dp; omega) (by rw [← r1.length, ← rd.length]; exact hl.1) (by rw [← rz.length, ← rk.length]; exact hl.2) fun h' tk e d bs hbl hbs OM => ?_)
    obtain ⟨bv, b1, b2⟩ := hbs vs zs r1 rz
    have rg := b2 (tb X c) Z ds es' rd rk
    have bare := I1.bare
    obtain ⟨hp, gs, dr, tk0, os⟩ := s1
    obtain ⟨t1, hoe⟩ := OM.obj
    obtain ⟨G', g1, g2⟩ := restrict h' fun b => decide (b ≠ e)
    have gk : ∀ b, b ≠ e → G'.get? b = h'.get? b := fun b hb => g1 b (decide_eq_true hb)
    have ge : G'.get? e = none := g2 e (by simp)
    have old : ∀ b o, hp.get? b = some o → G'.get? b = some o := fun b o z => (gk b (Nat.ne_of_lt (Nat.lt_of_lt_of_le (Heap.lt_size z) OM.new))).trans (OM.keep b o z)
    have nd : H1 d = none := I1.hok.fresh OM.dbig
    have hrel : ∀ y, RelO ((ps.zip bv).reverse.lookup y) ((ps.zip bs).reverse.lookup y) := fun y => by
      rw [zip_rev (by rw [b1.length, hbl]), zip_rev hbl.symm]
      exact relO_zip y (vals_rev b1)
    have J1 : L2.Inv X pins σ (upd H1 d (.xd (ps.zip bv).reverse)) ⟨G', gs, dr, tk, os⟩ := I1.laid (t' := tk) old OM.dbig ⟨_, OM.ns.at fun o z => (gk d OM.dne).trans z, hrel⟩
    have ne : upd H1 d (.xd (ps.zip bv).reverse) e = none := by
      rw [upd_ne (Ne.symm OM.dne)]
      exact I1.hok.fresh OM.new
    have gd1 := gd.add (.xd (ps.zip bv).reverse) nd
    have st1 : Step Z H1 (Z.add d (.xd (ps.zip bv).reverse)) (upd H1 d (.xd (ps.zip bv).reverse)) := Step.add gd nd
    refine ⟨e, _, _, ⟨G', gs, dr, tk, os⟩, _, .ref (c k), some d, rfl, J1, fun b o z => ?_, ge, hoe, ⟨rfl, rfl⟩, rfl, rfl, ne, rfl, bare, R, ?_⟩
    · by_cases hb : b = e
      · have z' : G'.get? b = some o := z
        rw [hb, ge] at z'
        cases z'
      · exact (gk b hb).symm.trans z
    · exact q _ _ (.ref (c k), some d) st1 gd1 ⟨k, _, rfl, rfl, _, upd_same, (repF_zip rg).reverse.mono st1.le⟩
  · rw [if_neg hl] at q
    exact False.elim q
theorem pmk_exc0 (M : XMk0 X.K (c k)) (R : Raises X (.ref (c k))) (hg : Gl X x) (hm : X.mg x = some (.ref (c k))) (hdb : (x == ("__debug__" : Str)) = false) :
    L2.PMk X (.Call (.Name x p) [] [] pos) (fun σ H Q => rdG (tb X c) (RX c (tb X c)) W (dExc0 k) σ H fun b H' => Q b.1 b.2 H') := by
  intro pins s σ H Q I ⟨Z, ρ, μ, gd, sl, q⟩
  refine wpAny_Call_Name_kw (ld_glob I hg hm (PySem.W.callWith_K0 I.kIn M.kp ?_) hdb)
  obtain ⟨B, newId, initId, bmB, F, hin, hi⟩ := M.new
  obtain ⟨nm, N, qn, bs, bm, hdct, sn, sub, ab, col, dd, k0, k1, k2, k3, k5, hC, hT⟩ := PySem.W.excInit_of I.kIn hin
  have bare := I.bare
  obtain ⟨hp, gs, dr, tk, os⟩ := s
  refine PySem.W.call_B F hT hC (PySem.W.looks_findIn I.kIn hi) (by rw [sizeLine_eq]; decide) fun h' kk he ht => ?_
  obtain ⟨G', g1, g2⟩ := restrict h' fun b => decide (b ≠ hp.objs.size + 1)
  have gk : ∀ b, b ≠ hp.objs.size + 1 → G'.get? b = h'.get? b := fun b hb => g1 b (decide_eq_true hb)
  have ge : G'.get? (hp.objs.size + 1) = none := g2 _ (by simp)
  have na : H (hp.objs.size + 1) = none := I.hok.fresh (Nat.le_succ _)
  have J : L2.Inv X pins σ H ⟨G', gs, dr, tk, os⟩ := I.kept (t' := tk) fun b o z => (gk b (Nat.ne_of_lt (Nat.lt_succ_of_lt (Heap.lt_size z)))).trans (kk b o z)
  refine ⟨hp.objs.size + 1, _, _, ⟨G', gs, dr, tk, os⟩, H, .ref (c k), none, rfl, J, fun b o z => ?_, ge, he, ⟨rfl, rfl⟩, rfl, rfl, na, rfl, bare, R, ?_⟩
  · by_cases hb : b = hp.objs.size + 1
    · have z' : G'.get? b = some o := z
      rw [hb, ge] at z'
      cases z'
    · exact (gk b hb).symm.trans z
  · exact q _ _ (.ref (c k), none) Step.rfl gd ⟨k, [], rfl, rfl, rfl⟩
end
end DL

set_option Elab.async false
set_option linter.all false
set_option autoImplicit false
set_option maxRecDepth 100000
/-! DL, part Mb: != by an own == -/
namespace DL
open PySem L2 PySem.W PySem.Calls PyProof.Rows

theorem ne_bind (self : Value) : bindSpecial (.builtin "object.__ne__") self = pure (.builtin "object.__ne__", [self]) := by
  first | rfl | kernel_rfl
section
variable {prog : Program} {w : World} {A : Around} {E : Value → Shared → Prop} {s : Shared} {K : PySem.W.Frag} {x C f : Addr} {ox : Obj} {od : Option Obj} {b tb : Value}
theorem ne_entry {Q : Fin → Shared → Prop} (X : K.In s.heap) (I : InstAt s.heap x ox C od) (hu : A.units < cLine) (hs : findIn K (.ref C) "__eq__" = some (some (.ref f))) (hf : isFn K (.ref f) = true)
    (h : wpAny (model prog w) A (call (.ref f) [.ref x, b]) (fun v s' => ∃ r, v = .bool r ∧ Q (.done (.ret (.bool (!r)))) s') E s) : wpAny (model prog w) A (Builtin.«object.__ne__» ⟨[.ref x, b], []⟩) Q E s := by
  have z : wpAny (model prog w) A (callSpecialIfBound? (.ref x) (Str.ofString "__eq__") [b]) (fun o s' => ∃ r, o = some (.bool r) ∧ Q (.done (.ret (.bool (!r)))) s') E s :=
    ifBound_K X I hs hf (wpAny_mono h (fun v s' ⟨r, e, q⟩ => ⟨r, by rw [e], q⟩) fun _ _ e => e)
  unfold Builtin.«object.__ne__»
  repeat (first
    | with_reducible refine wpAny_cRoomFor hu ?_
    | (refine wpAny_bind (m := callSpecialIfBound? (.ref x) (Str.ofString "__eq__") [b]) (wpAny_mono z (fun o s' ⟨r, e, q⟩ => by
          subst e
          repeat (first | exact q | exact wpAny_pure q | exact wpAny_truthy_bool q | (refine wpAny_bind (m := truthy (.bool _)) (wpAny_truthy_bool ?_)) | wp_step)) fun _ _ e => e))
    | wp_step)
/-- x != b, x an own instance with its own ==, without its own != -/
theorem ne_own {Q : Value → Shared → Prop} (X : K.In s.heap) (I : InstAt s.heap x ox C od) (hu : A.units + 1 < cLine) (hb : Looks (model prog w) s.heap (typeOf b) tb) (hn : notFirst K C tb = true) (hne : findIn K (.ref C) "__ne__" = some (some (.builtin "object.__ne__")))
    (hs : findIn K (.ref C) "__eq__" = some (some (.ref f))) (hf : isFn K (.ref f) = true) (hm : mroIn K C (.type "object") = some true)
    (h : wpAny (model prog w) A.in1 (call (.ref f) [.ref x, b]) (fun v s' => ∃ r, v = .bool r ∧ Q (.bool (!r)) s') E s) : wpAny (model prog w) A (richCompare .NotEq (.ref x) b) Q E s := by
  have iv : Looks (model prog w) s.heap (isInstance (.ref x) (.type "object")) true := I.type.andThen (looks_mroIn X hm)
  have one : wpAny (model prog w) A (tryCompare (.ref x) "__ne__" b) (fun r s' => ∃ v, r = some v ∧ Q v s') E s := by
    unfold tryCompare
    refine wpAny_bind (NtL.csib (I.type.andThen (looks_findIn X hne)) (ne_bind _) (wpAny_call (codeAny_call_builtin F.cmp_object.ne.plain F.cmpEntry_ne
      (@check_slot (model prog w) _ _ _ "object.__ne__" "object" "__ne__" (.ref x) [b] [] _ F.cmpKind_ne F.cmpSplit_ne iv (F.cmpArgs_ne _ _) ?_))))
    exact ne_entry X I hu hs hf (wpAny_mono h (fun v s' ⟨r, e, q⟩ => ⟨r, e, wpAny_pure ⟨_, rfl, q⟩⟩) fun _ _ e => e)
  unfold richCompare
  simp only [oneThing_ref]
  refine wpAny_holding (wpAny_bind (wpAny_cRoomFor (Nat.lt_of_succ_lt hu) ?_))
  refine wpAny_bind (I.type.here (wpAny_bind (hb.here ?_)))
  split
  · rename_i q
    have e : subIn K tb (.ref C) = some false := by
      rcases Bool.or_eq_true_iff.mp hn with e | e
      · rw [beq_iff_eq.mp e] at q
        simp at q
      · exact beq_iff_eq.mp e
    refine wpAny_bind ((looks_subIn X e).here ?_)
    simp only [Bool.false_eq_true, if_false]
    refine wpAny_bind (wpAny_mono one (fun r s' z => ?_) fun _ _ e => e)
    obtain ⟨v, rfl, hq⟩ := z
    exact wpAny_pure hq
  · refine wpAny_bind (wpAny_pure ?_)
    simp only [Bool.false_eq_true, if_false]
    refine wpAny_bind (wpAny_mono one (fun r s' z => ?_) fun _ _ e => e)
    obtain ⟨v, rfl, hq⟩ := z
    exact wpAny_pure hq
end
section
variable {X : Cx} {c : Nat → Addr} {W : WX} {k n : Nat} {m : Mir} {ci ce : List Nat} {pins : List (Addr × Obj)} {σ : L2.St} {H : Hp} {s : Shared} {Z : Wd} {μ : Store}
/-- as own_run, one level below -/
theorem own_run1 {f : Addr} {fd : FuncData} {ps : List Str} {ds : List D} {vs : List V} {us : List Value} {Q : VK} (F : GnOk X.prog X.w X.K X.mg X.base k f fd ps (spM (tb X c) ps.length m)) (hb : Binds X.K fd ps []) (hl : ds.length = ps.length) (hr : Room (k + 1) X.A) (hG : X.A.guards = some []) (tk : Takes X W)
    (I : L2.Inv X pins σ H s) (r : Vals vs us) (g : Good (tb X c) Z H μ) (rd : Reps (tb X c) Z ds vs) (q : post (tb X c) (Rep (tb X c)) W Z H σ (m ds μ) Q) : wpAny (model X.prog X.w) X.A.in1 (call (.ref f) us) (EP X pins σ Q) X.xe s := by
  have hu : us.length = ps.length := by rw [← r.length, ← rd.length, hl]
  have b := hb s us I.kIn (by rw [List.append_nil]; exact hu)
  rw [List.append_nil] at b
  refine wpAny_call (codeAny_mono (F.run X.A.in1 X.stack s H ⟨us, []⟩ us vs Q (WE W σ) hr.in1 hG I.env0.in1 b r ⟨by rw [r.length, hu], Z, ds, μ, g, rd, post_w q fun _ _ _ z => z⟩) fun r s' hq => ?_)
  have z := end_of tk (fun _ _ _ q => q) I hq
  cases r with
  | error e => exact z
  | ok fl =>
    cases fl with
    | ret u => exact z
    | next => exact False.elim z
    | brk => exact False.elim z
    | cont => exact False.elim z
def notR (r : Res D) : Res D := match r with
  | .ok (.bl b) μ => .ok (.bl (!b)) μ
  | .exc C fs μ => .exc C fs μ
  | _ => .bad
def neF (ci ce : List Nat) (n : Nat) (m : Mir) (kds : List Kd) : D → D → Store → Res D := fun x y μ => notR (eqF ci ce n m kds x y μ)
theorem post_notR {T : Tab} {H : Hp} {Q : VK} {r : Res D} {Z : Wd} {σ : L2.St} (q : post T (Rep T) W Z H σ (notR r) Q) : post T (Rep T) W Z H σ r (fun v H' => ∃ b, v = .bl b ∧ Q (.bl (!b)) H') := by
  cases r with
  | bad => exact q
  | exc C fs μ => exact q
  | ok d μ =>
    cases d with
    | bl b =>
      intro Z' H' v l g r
      cases r
      exact ⟨b, rfl, q Z' H' _ l g (.bl _)⟩
    | _ => exact False.elim q
theorem ow_ne {kds : List Kd} (O : OwnOp X c k n 2 "__eq__" m) (hN : ∀ kd, hasK kds kd = true → notFirst X.K (c n) (kv c kd) = true) (hne : findIn X.K (.ref (c n)) "__ne__" = some (some (.builtin "object.__ne__"))) (hm : mroIn X.K (c n) (.type "object") = some true) (KF : KindF X.K c ci ce) (hr : Room (k + 1) X.A)
    (hG : X.A.guards = some []) (tk : Takes X W) : OpW X c W (richCompare .NotEq) (neF ci ce n m kds) := by
  intro pins s σ H x y u v Z μ dx dy Q I r1 r2 g d1 d2 q
  obtain ⟨f, fd, ps, hs, hf, F, hb, hl⟩ := O.ex
  have q0 := post_notR q
  unfold eqF at q0
  cases e1 : insD μ dx with
  | none =>
    rw [e1] at q0
    exact False.elim q0
  | some cf =>
    obtain ⟨j, fs⟩ := cf
    rw [e1] at q0
    dsimp only at q0
    by_cases hj : j = n
    · subst hj
      rw [if_pos rfl] at q0
      obtain ⟨a, dd, vs, rfl, ha, rf⟩ := ins_at g d1 e1
      obtain rfl : u = Value.ref a := r1
      obtain ⟨mA, OM, _, _, _, _⟩ := ins_get I.hok ha
      obtain ⟨od, J, _⟩ := OM.look
      cases e2 : kindD ci ce μ dy with
      | none =>
        rw [e2] at q0
        exact False.elim q0
      | some kd =>
        obtain ⟨P, KX, p, _⟩ := kit_d KF I g d2 r2 e2
        have L := KX.ty (model X.prog X.w) s.heap I.kIn p
        rw [e2] at q0
        dsimp only at q0
        by_cases hi : hasK kds kd = true
        · rw [if_pos hi] at q0
          refine ne_own I.kIn J (by have := hr.units; omega) L (hN kd hi) hne hs hf hm (wpAny_mono (own_run1 F hb (by rw [hl]; rfl) hr hG tk I (vs := [.ref a, y]) (.cons rfl (.cons r2 .nil)) g (.cons d1 (.cons d2 .nil)) q0) (fun w s' z => ?_) fun _ _ z => z)
          obtain ⟨y', H', I', ry, b, rfl, qb⟩ := z
          exact ⟨b, ry, .bl (!b), H', I', rfl, qb⟩
        · rw [if_neg hi] at q0
          exact False.elim q0
    · rw [if_neg hj] at q0
      exact False.elim q0
end
end DL

set_option Elab.async false
set_option linter.all false
set_option autoImplicit false
set_option maxRecDepth 100000
/-! DL, part Mc: small rules: what is not reached, //, is, tests by own code, list(..), f-strings, name += int, constants of the module. -/
namespace DL
open PySem L2 PySem.W PySem.Calls PyProof.Rows

section
variable {X : Cx} {c : Nat → Addr} {W : WX} {pos p : Pos} {e a b : Expr} {δ δ' δa δb : DenE} {t ta tb2 : DenT}
/-- rows that are not reached -/
def sBad : DenS := fun _ _ => .bad
def dBad : DenE := fun _ _ => .bad
theorem ds_bad {st : Stmt} : PS X st (rdS (tb X c) W sBad) := ⟨fun _ _ _ _ _ _ ⟨_, _, _, _, _, h⟩ => False.elim h⟩
theorem de_bad : PE X e (rdE (tb X c) W dBad) := ⟨fun _ _ _ _ _ _ ⟨_, _, _, _, _, h⟩ => False.elim h⟩
/-! ### // by any divisor, is of bools -/
def divZ : Op2 := int2 (fun _ j => decide (j ≠ 0 ∧ j.natAbs.log2 < 9000)) fun i j => .int (i.fdiv j)
theorem o_divZ : OpR X (binaryOp .FloorDiv) (rdO (tb X c) divZ) :=
  op_int2 (C := fun _ j => j ≠ 0 ∧ j.natAbs.log2 < 9000) (g := fun i j => .int (i.fdiv j)) (opI fun _ _ _ _ _ _ _ hc q => floordiv_int hc.1 q (.inl (PyProof.noPylong_of_log2 hc.2))) (fun i j h => (of_decide_eq_true h : j ≠ 0 ∧ j.natAbs.log2 < 9000)) fun _ _ _ => .int _
def isB : Op2 := fun x y _ => match x, y with
  | .bl k, .bl l => some (.bl (decide (k = l)))
  | _, _ => none
def notB : Op2 := fun x y _ => match x, y with
  | .bl k, .bl l => some (.bl (!decide (k = l)))
  | _, _ => none
theorem o_isB : OpR X (compareOp .Is) (rdO (tb X c) isB) := by
  refine OpR.imp op_isBl fun x y H Q ⟨Z, μ, dx, dy, d, g, r1, r2, ed, q⟩ => ?_
  unfold isB at ed
  split at ed
  · rename_i k l
    cases r1
    cases r2
    cases ed
    exact ⟨k, l, rfl, rfl, q Z H _ Step.rfl g (.bl _)⟩
  · cases ed
theorem o_notB : OpR X (compareOp .IsNot) (rdO (tb X c) notB) := by
  refine OpR.imp op_notBl fun x y H Q ⟨Z, μ, dx, dy, d, g, r1, r2, ed, q⟩ => ?_
  unfold notB at ed
  split at ed
  · rename_i k l
    cases r1
    cases r2
    cases ed
    exact ⟨k, l, rfl, rfl, q Z H _ Step.rfl g (.bl _)⟩
  · cases ed
/-! ### tests -/
def dIfT (t ta tb : DenT) : DenT := fun ρ μ => (t ρ μ).bind fun k μ1 => if k = true then ta ρ μ1 else tb ρ μ1
theorem dt_if (ht : PT X e (rdT (tb X c) W t)) (ha : PT X a (rdT (tb X c) W ta)) (hb : PT X b (rdT (tb X c) W tb2)) : PT X (.IfExp e a b pos) (rdT (tb X c) W (dIfT t ta tb2)) := by
  refine ⟨fun pins s σ H Q I h => ?_⟩
  obtain ⟨Z, ρ, μ, g, sl, h1⟩ := rd_then (R := EqB) (f := fun ρ k μ1 => if k = true then ta ρ μ1 else tb2 ρ μ1) h
  show wpAny _ _ (isTrue e X.env (eval e X.env) >>= fun k => if k then isTrue a X.env (eval a X.env) else isTrue b X.env (eval b X.env)) _ _ _
  refine wpAny_bind (thn (ht.run pins s σ H _ I ⟨Z, ρ, μ, g, sl, h1⟩) fun k s1 ⟨H1, I1, Z1, ρ1, k1, μ1, g1, s1', rk, q1⟩ => ?_)
  have rk' : k1 = k := rk
  subst rk'
  cases k1 with
  | true => exact ha.run pins s1 σ H1 Q I1 ⟨Z1, ρ1, μ1, g1, s1', q1⟩
  | false => exact hb.run pins s1 σ H1 Q I1 ⟨Z1, ρ1, μ1, g1, s1', q1⟩
/-- a value that must be a bool -/
theorem post_isB {T : Tab} {Z : Wd} {H : Hp} {σ : L2.St} {r : Res D} {Q : Bool → Hp → Prop} (h : post T EqB W Z H σ (r.bind fun x μ1 => (match x with
    | .bl b => .ok b μ1
    | _ => .bad : Res Bool)) Q) : post T (Rep T) W Z H σ r (fun v H' => ∃ k, v = .bl k ∧ Q k H') := by
  cases r with
  | bad => exact h
  | exc C fs μ => exact h
  | ok d μ =>
    cases d with
    | bl k =>
      intro Z' H' v l g r
      cases r
      exact ⟨k, rfl, h Z' H' k l g rfl⟩
    | _ => exact False.elim h
theorem dt_cmpW {op : CmpOp} {F : D → D → Store → Res D} (ho : OpW X c W (compareOp op) F) (ha : PE X a (rdE (tb X c) W δa)) (hb : PE X b (rdE (tb X c) W δb)) (hm : behindInMarks op b = false) : PT X (.Compare a [op] [b] pos) (rdT (tb X c) W (dIsB (dTwo F δa δb))) := by
  refine ⟨fun pins s σ H Q I h => ?_⟩
  obtain ⟨Z, ρ, μ, g, sl, h1⟩ := h
  have h2 : rdE (tb X c) W (dTwo F δa δb) σ H (fun v H' => ∃ k, v = .bl k ∧ Q k H') := ⟨Z, ρ, μ, g, sl, post_isB h1⟩
  have h3 := two_run ho ha hb I h2
  refine wpAny_isTrue_Compare1 (wpAny_mono h3 (fun v s1 z1 => wpAny_mono z1 (fun u s2 z2 => wpAny_mono z2 (fun w s3 z3 => ?_) fun _ _ z => z) fun _ _ z => z) fun _ _ z => z) hm
  obtain ⟨y, H3, I3, r3, k, ek, q3⟩ := z3
  subst ek
  cases r3
  exact wpAny_truthy_bool ⟨H3, I3, q3⟩
/-- list(x) of a list or a tuple -/
def listB : OpN := fun ds μ => match ds with
  | [d] => (asS μ d).map .lst
  | _ => none
theorem c_list : CallR X (.type "list") (rdC (tb X c) listB) := by
  refine CallR.imp call_list_of fun vs H Q ⟨Z, μ, ds, d, g, r, ed, q⟩ => ?_
  simp only [listB] at ed
  split at ed
  · rename_i d1
    cases w : asS μ d1 with
    | none => rw [w] at ed; cases ed
    | some xs =>
      rw [w] at ed
      cases ed
      cases r with
      | cons r1 r2 =>
        cases r2
        obtain ⟨a, ws, h1, h2, h3⟩ := at_s g r1 w
        subst h1
        exact ⟨a, ws, rfl, h2, new_lst g h3 q⟩
  · cases ed
/-- a, b, .. = a new list -/
def gLstD (n : Nat) (γs : DenGs) : DenG := fun d ρ μ => match d with
  | .lst ds => if ds.length = n then γs ds ρ μ else .bad
  | _ => .bad
theorem dg_lst {es : List Expr} {k : Nat} {γs : DenGs} (hc : X.calm = true) (hs : es.all notStar = true) (h : PGs X es (rdTgs (tb X c) γs)) : PG X (.Tuple es k pos) (rdTg (tb X c) (gLstD es.length γs)) := by
  obtain ⟨i1, i2⟩ := each_len (env := X.env) hs
  refine PG.imp (pg_lst hc h i1 i2) fun v σ H Q ⟨Z, ρ, μ, d, g, s, r, h⟩ => ?_
  cases r with
  | @lst a vs ds hq r =>
    simp only [gLstD] at h
    by_cases hl : ds.length = es.length
    · rw [if_pos hl] at h
      exact ⟨a, vs, rfl, SqL.of (g.sub _ _ hq), by rw [← r.length]; exact hl, Z, ρ, μ, ds, g, s, r, h⟩
    · rw [if_neg hl] at h
      exact False.elim h
  | _ => exact False.elim h
/-- name += an int -/
def sAugA (i : Nat) (δ : DenE) : DenS := fun ρ μ => match ρ[i]? with
  | some (some (.int x)) => bindS (δ ρ μ) ρ fun d μ1 => match d with
    | .int y => .nx (ρ.set i (some (.int (x + y)))) μ1
    | _ => .bad
  | _ => .bad
theorem ds_augA {i : Nat} {x : Str} {pos' : Pos} (hN : X.N.Nodup) (hi : X.N[i]? = some x) (hx : L2.Loc X.env.scope x) (hf : X.fn x = true ∨ X.env.scope.names.lookup x = some .local) (h : PE X e (rdE (tb X c) W δ)) : PS X (.AugAssign (.Name x pos') .Add e pos) (rdS (tb X c) W (sAugA i δ)) := by
  refine PS.imp (ps_aug hN hi hx h iop_add hf) fun E σ H ⟨Z, ρ, μ, g, s, q⟩ => ?_
  unfold sAugA at q
  split at q
  · rename_i z ez
    obtain ⟨v, h1, h2⟩ := s.2 _ _ ez
    cases h2
    refine ⟨_, h1, Z, ρ, μ, g, s, post_mono (post_bindS (R := Rep (tb X c)) s q) fun v H1 ⟨Z1, d, μ1, l, g1, s1, r, q1⟩ => ?_⟩
    cases r with
    | int y => exact ⟨z, y, rfl, rfl, q1 Z1 H1 _ Step.rfl g1 (s1.set (.int _) i)⟩
    | _ => exact False.elim q1
  · exact False.elim q
/-- a name of the module that holds an int -/
theorem de_gint {x : Str} {i : Int} {tk : Tok} (hg : Gl X x) (hm : X.mg x = some (.int i tk)) (hdb : (x == ("__debug__" : Str)) = false) : PE X (.Name x pos) (rdE (tb X c) W (dC (.int i))) :=
  ⟨fun pins s σ H Q I ⟨Z, ρ, μ, g, sl, q⟩ => ld_glob I hg hm ⟨.int i, H, I, ⟨tk, rfl⟩, q Z H _ Step.rfl g (.int i)⟩ hdb⟩
/-! ### f-strings -/
def fmtD : D → Option D
  | .int i => if i.natAbs.log2 < 1920 then some (.str (toString i)) else none
  | .str y => if y.length ≤ sizeLine then some (.str y) else none
  | _ => none
theorem de_fmt (h : PE X e (rdE (tb X c) W δ)) : PE X (.FormattedValue e (-1) none pos) (rdE (tb X c) W (dUn fmtD δ)) := by
  refine PE.imp (pe_fmt h) fun σ H Q h => ?_
  obtain ⟨Z, ρ, μ, g, s, h1⟩ := rd_then (R := Rep (tb X c)) (f := fun _ x μ1 => ofO (fmtD x) μ1) h
  refine ⟨Z, ρ, μ, g, s, post_mono h1 fun x H1 ⟨Z1, ρ1, dx, μ1, g1, s1, rx, q1⟩ => ?_⟩
  cases rx with
  | int i =>
    by_cases hi : i.natAbs.log2 < 1920
    · simp only [fmtD, if_pos hi, ofO] at q1
      exact .inr ⟨i, rfl, hi, q1 Z1 H1 _ Step.rfl g1 (.str _)⟩
    · simp only [fmtD, if_neg hi, ofO] at q1
      exact False.elim q1
  | str y =>
    by_cases hi : y.length ≤ sizeLine
    · simp only [fmtD, if_pos hi, ofO] at q1
      exact .inl ⟨y, rfl, hi, q1 Z1 H1 _ Step.rfl g1 (.str _)⟩
    · simp only [fmtD, if_neg hi, ofO] at q1
      exact False.elim q1
  | _ => exact False.elim q1
def jnD : List DenE → Str → Env → Store → Res D
  | [], acc, _, μ => .ok (.str acc) μ
  | δ :: r, acc, ρ, μ => (δ ρ μ).bind fun d μ1 => match d with
    | .str y => if (acc ++ y).length ≤ sizeLine then jnD r (acc ++ y) ρ μ1 else .bad
    | _ => .bad
def dJoin (δs : List DenE) : DenE := fun ρ μ => jnD δs Str.empty ρ μ
inductive PJd (X : Cx) (c : Nat → Addr) (W : WX) : List Expr → List DenE → Prop where
  | nil : PJd X c W [] []
  | cons {e : Expr} {δ : DenE} {es : List Expr} {δs : List DenE} (h : PE X e (rdE (tb X c) W δ)) (r : PJd X c W es δs) : PJd X c W (e :: es) (δ :: δs)
theorem PJd.pj {es : List Expr} {δs : List DenE} (h : PJd X c W es δs) : PJ X es (δs.map (rdE (tb X c) W)) := by
  induction h with
  | nil => exact .nil
  | cons h _ ih => exact .cons h ih
theorem jn_rd {σ : L2.St} {Q : VK} : ∀ {δs : List DenE} {acc : Str} {Z : Wd} {ρ : Env} {μ : Store} {H : Hp}, Good (tb X c) Z H μ → Slots (tb X c) Z ρ σ → post (tb X c) (Rep (tb X c)) W Z H σ (jnD δs acc ρ μ) Q → tJs (δs.map (rdE (tb X c) W)) acc σ H fun out H1 => Q (.str out) H1
  | [], acc, Z, ρ, μ, H, g, s, h => h Z H _ Step.rfl g (.str acc)
  | δ :: r, acc, Z, ρ, μ, H, g, s, h => by
    refine ⟨Z, ρ, μ, g, s, post_mono (post_bind (R := Rep (tb X c)) h) fun v H1 ⟨Z1, d, μ1, l1, g1, r1, q1⟩ => ?_⟩
    cases r1 with
    | str y =>
      dsimp only at q1
      by_cases hl : (acc ++ y).length ≤ sizeLine
      · rw [if_pos hl] at q1
        exact ⟨y, rfl, hl, jn_rd g1 (s.mono l1.le) q1⟩
      · rw [if_neg hl] at q1
        exact False.elim q1
    | _ => exact False.elim q1
theorem de_join {v1 v2 : Expr} {rest : List Expr} {δs : List DenE} (h : PJd X c W (v1 :: v2 :: rest) δs) : PE X (.JoinedStr (v1 :: v2 :: rest) pos) (rdE (tb X c) W (dJoin δs)) :=
  PE.imp (pe_joined h.pj) fun σ H Q ⟨Z, ρ, μ, g, s, h1⟩ => jn_rd g s h1
theorem de_join1 (h : PE X e (rdE (tb X c) W δ)) : PE X (.JoinedStr [e] pos) (rdE (tb X c) W δ) := pe_joined1 h
end
end DL

set_option Elab.async false
set_option linter.all false
set_option autoImplicit false
set_option maxRecDepth 100000
/-! DL, part Md: == and != of tuples and lists, item by item, each by its own code. -/
namespace DL
open PySem L2 PySem.SeqAt
open AutoSeq1 (wpAny_loadPart')
open MeetsSeq MeetsSeq2 MeetsSeq3 SeqRoads2

section
variable {prog : Program} {w : World} {A : Around} {R : Result → Shared → Prop} {l b : Addr} {xs ys : Array Value} {n n2 : Nat} {dd dd2 : Option Addr} {sl sl2 : Array (Option Value)} {J : Nat → Shared → Prop} {s : Shared}
/-- one turn: equal, and on; or the end -/
def Turn (prog : Program) (w : World) (A : Around) (R : Result → Shared → Prop) (ne : Bool) (u v : Value) (i : Nat) (J : Nat → Shared → Prop) (s : Shared) : Prop :=
  wpAny (model prog w) A.in1 (eqBool u v) (fun r s' => if r = true then J (i + 1) s' else R (.ok (.ret (.bool ne))) s') (fun e s' => R (.error e) s') s
theorem tup_eq2 (hsz : xs.size = ys.size) (turn : ∀ i (h1 : i < xs.size) (h2 : i < ys.size) s, J i s → Turn prog w A R false xs[i] ys[i] i J s) (fin : ∀ s, J xs.size s → R (.ok (.ret (.bool true))) s)
    (hl1 : s.heap.get? l = some { cls := .type "tuple", dict := dd, data := .seq xs n, slots := sl }) (hb1 : s.heap.get? b = some { cls := .type "tuple", dict := dd2, data := .seq ys n2, slots := sl2 }) (h : J 0 s) :
    wpAny (model prog w) A.in1 (Builtin.«tuple.__eq__» ⟨[.ref l, .ref b], []⟩) (GQ.FinOf prog w A R) (fun e s' => R (.error e) s') s := by
  have g2 := AutoSeq1.sub_tuple_tuple
  have zl : (xs.toList.zip ys.toList).length = xs.size := by simp [hsz]
  have start := h
  obtain ⟨hp, g, d, tk, os⟩ := s
  wp_walk using wpAny_loadPart' hl1, wpAny_loadPart' hb1, wpAny_forIn_list _ (fun rest b s' => b.1 = none ∧ ∃ i, rest = (xs.toList.zip ys.toList).drop i ∧ i ≤ xs.size ∧ J i s') _
  case turn =>
    rintro ⟨y, x⟩ rest b s' ⟨e0, i, er, hi, hJ⟩
    have lt : i < (xs.toList.zip ys.toList).length := by
      by_cases h' : i < (xs.toList.zip ys.toList).length
      · exact h'
      · rw [List.drop_of_length_le (by omega)] at er
        cases er
    have h1 : i < xs.size := zl ▸ lt
    have h2 : i < ys.size := hsz ▸ h1
    rw [List.drop_eq_getElem_cons lt] at er
    injection er with e1 e2
    have ey : y = xs[i] := by simpa using congrArg Prod.fst e1
    have ex : x = ys[i] := by simpa using congrArg Prod.snd e1
    subst ey ex
    refine wpAny_bind (wpAny_mono (turn i h1 h2 s' hJ) (fun r s2 q => ?_) fun _ _ z => z)
    cases r with
    | true =>
      wp_walk
      exact ⟨rfl, i + 1, e2, h1, by simpa using q⟩
    | false =>
      have q' : R (.ok (.ret (.bool false))) s2 := by simpa using q
      wp_walk
      exact q'
  case fin =>
    rintro ⟨b1, b2⟩ s' ⟨e0, i, er, hi, hJ⟩
    simp only at e0
    subst e0
    have ge : ¬ i < (xs.toList.zip ys.toList).length := fun z => by
      rw [List.drop_eq_getElem_cons z] at er
      cases er
    have hR := fin s' (by rw [show xs.size = i by omega]; exact hJ)
    wp_walk
    simpa [Builtin.Tuple.tupleCompareSizes, hsz] using hR
  case h => exact ⟨rfl, 0, rfl, Nat.zero_le _, start⟩
theorem tup_ne2 (hsz : xs.size = ys.size) (turn : ∀ i (h1 : i < xs.size) (h2 : i < ys.size) s, J i s → Turn prog w A R true xs[i] ys[i] i J s) (fin : ∀ s, J xs.size s → R (.ok (.ret (.bool false))) s)
    (hl1 : s.heap.get? l = some { cls := .type "tuple", dict := dd, data := .seq xs n, slots := sl }) (hb1 : s.heap.get? b = some { cls := .type "tuple", dict := dd2, data := .seq ys n2, slots := sl2 }) (h : J 0 s) :
    wpAny (model prog w) A.in1 (Builtin.«tuple.__ne__» ⟨[.ref l, .ref b], []⟩) (GQ.FinOf prog w A R) (fun e s' => R (.error e) s') s := by
  have g2 := AutoSeq1.sub_tuple_tuple
  have zl : (xs.toList.zip ys.toList).length = xs.size := by simp [hsz]
  have start := h
  obtain ⟨hp, g, d, tk, os⟩ := s
  wp_walk using wpAny_loadPart' hl1, wpAny_loadPart' hb1, wpAny_forIn_list _ (fun rest b s' => b.1 = none ∧ ∃ i, rest = (xs.toList.zip ys.toList).drop i ∧ i ≤ xs.size ∧ J i s') _
  case turn =>
    rintro ⟨y, x⟩ rest b s' ⟨e0, i, er, hi, hJ⟩
    have lt : i < (xs.toList.zip ys.toList).length := by
      by_cases h' : i < (xs.toList.zip ys.toList).length
      · exact h'
      · rw [List.drop_of_length_le (by omega)] at er
        cases er
    have h1 : i < xs.size := zl ▸ lt
    have h2 : i < ys.size := hsz ▸ h1
    rw [List.drop_eq_getElem_cons lt] at er
    injection er with e1 e2
    have ey : y = xs[i] := by simpa using congrArg Prod.fst e1
    have ex : x = ys[i] := by simpa using congrArg Prod.snd e1
    subst ey ex
    refine wpAny_bind (wpAny_mono (turn i h1 h2 s' hJ) (fun r s2 q => ?_) fun _ _ z => z)
    cases r with
    | true =>
      wp_walk
      exact ⟨rfl, i + 1, e2, h1, by simpa using q⟩
    | false =>
      have q' : R (.ok (.ret (.bool true))) s2 := by simpa using q
      wp_walk
      exact q'
  case fin =>
    rintro ⟨b1, b2⟩ s' ⟨e0, i, er, hi, hJ⟩
    simp only at e0
    subst e0
    have ge : ¬ i < (xs.toList.zip ys.toList).length := fun z => by
      rw [List.drop_eq_getElem_cons z] at er
      cases er
    have hR := fin s' (by rw [show xs.size = i by omega]; exact hJ)
    wp_walk
    simpa [Builtin.Tuple.tupleCompareSizes, hsz] using hR
  case h => exact ⟨rfl, 0, rfl, Nat.zero_le _, start⟩
def ListR (l b : Addr) (N : Nat) (s : Shared) : Prop := ∃ (xs ys : Array Value) (n n2 : Nat), s.heap.get? l = some { cls := .type "list", data := .seq xs n } ∧ s.heap.get? b = some { cls := .type "list", data := .seq ys n2 } ∧ xs.size = N ∧ ys.size = N
/-- two lists, read anew at each turn -/
def ListJ (prog : Program) (w : World) (A : Around) (R : Result → Shared → Prop) (ne : Bool) (l b : Addr) (N : Nat) (J : Nat → Shared → Prop) : Prop :=
  ∀ i s, J i s → ∃ (xs ys : Array Value) (n n2 : Nat), s.heap.get? l = some { cls := .type "list", data := .seq xs n } ∧ s.heap.get? b = some { cls := .type "list", data := .seq ys n2 } ∧ xs.size = N ∧ ys.size = N ∧
    ∀ (h1 : i < xs.size) (h2 : i < ys.size), wpAny (model prog w) A.in1 (eqBool xs[i] ys[i]) (fun r s' => (r = true → J (i + 1) s') ∧ (r = false → ListR l b N s' ∧ R (.ok (.ret (.bool ne))) s')) (fun e s' => R (.error e) s') s
theorem lst_loop (ne : Bool) {N : Nat} (hl : ListJ prog w A R ne l b N J) (fin : ∀ s, J N s → R (.ok (.ret (.bool (!ne)))) s) (k : Nat) : ∀ i : Nat, N - i = k → i ≤ N → ∀ s, J i s →
    wpAny (model prog w) A.in1 (Builtin.«list.__eq__.loop» ⟨[.ref l, .ref b, rawInt i, rawInt (if ne then 3 else 2)], []⟩) (GQ.FinOf prog w A R) (fun e s' => R (.error e) s') s := by
  induction k with
  | zero =>
    intro i hk hi s h
    obtain ⟨xs, ys, n, n2, a1, a2, z1, z2, _⟩ := hl _ _ h
    have hR := fin s (by rw [show N = i by omega]; exact h)
    obtain ⟨hp, g, d, tk, os⟩ := s
    cases ne
    all_goals
      wp_walk using wpAny_loadPart' a1, wpAny_loadPart' a2
      rw [show xs[((i : Nat) : Int).toNat]? = none by simp; omega, show ys[((i : Nat) : Int).toNat]? = none by simp; omega]
      wp_walk using wpAny_loadPart' a1, wpAny_loadPart' a2
      first
        | (show R (.ok (.ret (.bool (xs.size == ys.size)))) _
           rw [z1, z2]
           simpa using hR)
        | (show R (.ok (.ret (.bool (xs.size != ys.size)))) _
           rw [z1, z2]
           simpa using hR)
  | succ k ih =>
    intro i hk hi s h
    obtain ⟨xs, ys, n, n2, a1, a2, z1, z2, turn⟩ := hl _ _ h
    have k1 : i < xs.size := by omega
    have k2 : i < ys.size := by omega
    have ht := turn k1 k2
    obtain ⟨hp, g, d, tk, os⟩ := s
    have hc : ((i : Int) + 1) = ((i + 1 : Nat) : Int) := by omega
    cases ne
    all_goals
      wp_walk using wpAny_loadPart' a1, wpAny_loadPart' a2
      rw [show xs[((i : Nat) : Int).toNat]? = some xs[i] by simp [k1], show ys[((i : Nat) : Int).toNat]? = some ys[i] by simp [k2]]
      refine wpAny_bind (wpAny_mono ht (fun r s2 q => ?_) fun _ _ z => z)
      obtain ⟨hJ, hf⟩ := q
      cases r with
      | true =>
        have hrec := ih (i + 1) (by omega) (by omega) s2 (hJ rfl)
        obtain ⟨hp2, g2, d2, tk2, os2⟩ := s2
        wp_walk
        rw [hc]
        exact ⟨plainId_quiet plain_eq_loop _, codeAny_builtin entry_eq_loop (by
          rw [Around.under_plainId plain_eq_loop _]
          exact hrec)⟩
      | false =>
        obtain ⟨⟨xs', ys', m, m2, b1, b2, y1, y2⟩, hR⟩ := hf rfl
        obtain ⟨hp2, g2, d2, tk2, os2⟩ := s2
        have k3 : i < xs'.size := by omega
        have k4 : i < ys'.size := by omega
        wp_walk using wpAny_loadPart' b1, wpAny_loadPart' b2
        rw [show xs'[((i : Nat) : Int).toNat]? = some xs'[i] by simp [k3], show ys'[((i : Nat) : Int).toNat]? = some ys'[i] by simp [k4]]
        wp_walk
        exact hR
end
end DL

set_option Elab.async false
set_option linter.all false
set_option autoImplicit false
set_option maxRecDepth 100000
/-! DL, part Me: == and != of tuples and lists with instances in them. -/
namespace DL
open PySem L2 PySem.SeqAt
open AutoSeq1 (wpAny_loadPart')
open MeetsSeq MeetsSeq2 MeetsSeq3 SeqRoads2

section
variable {prog : Program} {w : World} {A : Around} {R : Result → Shared → Prop} {l b : Addr} {J : Nat → Shared → Prop} {s : Shared}
theorem lst_eq2 {N : Nat} (hl : ListJ prog w A R false l b N J) (fin : ∀ s, J N s → R (.ok (.ret (.bool true))) s) (h : J 0 s) :
    wpAny (model prog w) A.in1 (Builtin.«list.__eq__» ⟨[.ref l, .ref b], []⟩) (GQ.FinOf prog w A R) (fun e s' => R (.error e) s') s := by
  obtain ⟨xs, ys, n, n2, a1, a2, z1, z2, _⟩ := hl _ _ h
  have hrec := lst_loop (prog := prog) (w := w) (A := A) (R := R) false hl fin _ 0 rfl (Nat.zero_le _) s h
  obtain ⟨hp, g, d, tk, os⟩ := s
  have g3 := AutoSeq1.sub_list_list
  have hne : ¬ (xs.size != ys.size) = true := by simp [z1, z2]
  wp_walk using wpAny_loadPart' a1, wpAny_loadPart' a2
  exact ⟨plainId_quiet plain_eq_loop _, codeAny_builtin entry_eq_loop (by
    rw [Around.under_plainId plain_eq_loop _]; exact hrec)⟩
theorem lst_ne2 {N : Nat} (hl : ListJ prog w A R true l b N J) (fin : ∀ s, J N s → R (.ok (.ret (.bool false))) s) (h : J 0 s) :
    wpAny (model prog w) A.in1 (Builtin.«list.__ne__» ⟨[.ref l, .ref b], []⟩) (GQ.FinOf prog w A R) (fun e s' => R (.error e) s') s := by
  obtain ⟨xs, ys, n, n2, a1, a2, z1, z2, _⟩ := hl _ _ h
  have hrec := lst_loop (prog := prog) (w := w) (A := A) (R := R) true hl fin _ 0 rfl (Nat.zero_le _) s h
  obtain ⟨hp, g, d, tk, os⟩ := s
  have g3 := AutoSeq1.sub_list_list
  have hne : ¬ (xs.size != ys.size) = true := by simp [z1, z2]
  wp_walk using wpAny_loadPart' a1, wpAny_loadPart' a2
  exact ⟨plainId_quiet plain_eq_loop _, codeAny_builtin entry_eq_loop (by
    rw [Around.under_plainId plain_eq_loop _]; exact hrec)⟩
end

/-- somewhere below the body X, with room, no repr around -/
structure SubG (X : Cx) (n : Nat) (A : Around) : Prop where
  room : Room n A
  fr : A.frames = X.A.frames
  gd : A.guards = some []
theorem SubG.in1 {X : Cx} {n : Nat} {A : Around} (s : SubG X (n + 1) A) : SubG X n A.in1 := ⟨s.room.in1, s.fr, s.gd⟩
theorem SubG.mono {X : Cx} {n m : Nat} {A : Around} (s : SubG X n A) (h : m ≤ n) : SubG X m A := ⟨s.room.mono h, s.fr, s.gd⟩
def scV : D → Option V
  | .non => some .non
  | .bl b => some (.bl b)
  | .int i => some (.int i)
  | .str x => some (.str x)
  | _ => none
def flatF (fs : List (Str × D)) : Bool := fs.all fun p => (scV p.2).isSome
/-- item by item, to the first that differs -/
def deqL (f : D → D → Option Bool) : List D → List D → Option Bool
  | [], [] => some true
  | x :: xs, y :: ys => match f x y with
    | some true => deqL f xs ys
    | some false => if xs.length = ys.length then some false else none
    | none => none
  | _, _ => none
/-- ==, instances of the class n compared by q -/
def deq (n : Nat) (q : List (Str × D) → List (Str × D) → Option Bool) : Nat → D → D → Option Bool
  | k, x, y => match scV x, scV y with
    | some a, some b => some (eqV a b)
    | _, _ => match x, y with
      | .ins i fs, .ins j gs => if i = n ∧ j = n ∧ flatF fs = true ∧ flatF gs = true then q fs gs else none
      | .tup xs, .tup ys => match k with
        | 0 => none
        | k + 1 => if deqL (deq n q k) xs ys = some true then some true else none
      | .lst xs, .lst ys => match k with
        | 0 => none
        | k + 1 => if deqL (deq n q k) xs ys = some true then some true else none
      | _, _ => none
theorem scV_rep {T : Tab} {Z : Wd} {d : D} {v a : V} (r : Rep T Z d v) (e : scV d = some a) : v = a ∧ flatV a = true := by
  cases r with
  | non => cases e; exact ⟨rfl, rfl⟩
  | bl b => cases e; exact ⟨rfl, rfl⟩
  | int i => cases e; exact ⟨rfl, rfl⟩
  | str x => cases e; exact ⟨rfl, rfl⟩
  | _ => cases e
theorem scV_inj {d e : D} {a : V} (h : scV d = some a) (h' : scV e = some a) : d = e := by
  cases d <;> (try cases h) <;> cases e <;> (try cases h') <;> rfl
theorem flat_inj {T : Tab} {Z : Wd} : ∀ {ds es : List (Str × D)} {vs : List (Str × V)}, RepF T Z ds vs → RepF T Z es vs → flatF ds = true → flatF es = true → ds = es
  | _, _, _, .nil, .nil, _, _ => rfl
  | _, _, _, .cons h1 r1, .cons h2 r2, f1, f2 => by
    simp only [flatF, List.all_cons, Bool.and_eq_true] at f1 f2
    obtain ⟨a, ea⟩ := Option.isSome_iff_exists.mp f1.1
    obtain ⟨b, eb⟩ := Option.isSome_iff_exists.mp f2.1
    have e1 := (scV_rep h1 ea).1
    have e2 := (scV_rep h2 eb).1
    rw [e1] at e2
    subst e2
    rw [scV_inj ea eb, flat_inj r1 r2 f1.2 f2.2]
theorem deqL_at {f : D → D → Option Bool} : ∀ {xs ys : List D} {b : Bool} (i : Nat) {x y : D}, deqL f (xs.drop i) (ys.drop i) = some b → xs[i]? = some x → ys[i]? = some y →
    (f x y = some true ∧ deqL f (xs.drop (i + 1)) (ys.drop (i + 1)) = some b) ∨ (f x y = some false ∧ b = false) := fun {xs ys b} i {x y} h hx hy => by
  obtain ⟨l1, e1⟩ := List.getElem?_eq_some_iff.mp hx
  obtain ⟨l2, e2⟩ := List.getElem?_eq_some_iff.mp hy
  rw [List.drop_eq_getElem_cons l1, List.drop_eq_getElem_cons l2, e1, e2] at h
  unfold deqL at h
  split at h
  · rename_i q
    exact .inl ⟨q, h⟩
  · rename_i q
    split at h
    · cases h
      exact .inr ⟨q, rfl⟩
    · cases h
  · cases h
theorem deqL_len {f : D → D → Option Bool} : ∀ {xs ys : List D} {b : Bool}, deqL f xs ys = some b → xs.length = ys.length
  | [], [], _, _ => rfl
  | x :: xs, y :: ys, b, h => by
    unfold deqL at h
    split at h
    · rw [List.length_cons, List.length_cons, deqL_len h]
    · split at h
      · rename_i q
        rw [List.length_cons, List.length_cons, q]
      · cases h
    · cases h
  | [], _ :: _, _, h => by cases h
  | _ :: _, [], _, h => by cases h
theorem deqL_end {f : D → D → Option Bool} {xs ys : List D} {b : Bool} {i : Nat} (h : deqL f (xs.drop i) (ys.drop i) = some b) (h1 : xs.length ≤ i) (h2 : ys.length ≤ i) : b = true := by
  rw [List.drop_of_length_le h1, List.drop_of_length_le h2] at h
  exact (Option.some.inj h).symm
/-- what a comparison leaves -/
def EqPost (X : Cx) (c : Nat → Addr) (pins : List (Addr × Obj)) (σ : St) (μ : Store) (Z : Wd) (H : Hp) (s' : Shared) : Prop := ∃ Z' H', Inv X pins σ H' s' ∧ Step Z H Z' H' ∧ Good (tb X c) Z' H' μ
section
variable {X : Cx} {c : Nat → Addr} {W : WX} {k n : Nat} {m : Mir} {q : List (Str × D) → List (Str × D) → Option Bool}
/-- == inside tuples and lists -/
def EqDS (X : Cx) (c : Nat → Addr) (k : Nat) (f : D → D → Option Bool) : Prop := ∀ (A : Around) (pins : List (Addr × Obj)) (s : Shared) (σ : St) (H : Hp) (x y : V) (u v : Value) (Z : Wd) (μ : Store) (dx dy : D) (b : Bool), SubG X k A → Inv X pins σ H s → RelV x u → RelV y v →
  Good (tb X c) Z H μ → Rep (tb X c) Z dx x → Rep (tb X c) Z dy y → f dx dy = some b → wpAny (model X.prog X.w) A (eqBool u v) (fun r s' => r = b ∧ EqPost X c pins σ μ Z H s') X.xe s
/-- a turn of the loop -/
theorem turn_d {f : D → D → Option Bool} {A : Around} (h : EqDS X c k f) (sb : SubG X (k + 1) A) {pins : List (Addr × Obj)} {σ : St} {H0 : Hp} {Z0 : Wd} {μ : Store} {ds es : List D} {vs ws : List V} {its its2 : List Value} {b : Bool} (rv : Vals vs its) (rw_ : Vals ws its2) (rd : Reps (tb X c) Z0 ds vs) (re : Reps (tb X c) Z0 es ws)
    (i : Nat) (h1 : i < its.toArray.size) (h2 : i < its2.toArray.size) (s' : Shared) (l : EqPost X c pins σ μ Z0 H0 s') (hb : deqL f (ds.drop i) (es.drop i) = some b) :
    wpAny (model X.prog X.w) A.in1 (eqBool its.toArray[i] its2.toArray[i]) (fun r s2 => EqPost X c pins σ μ Z0 H0 s2 ∧ ((r = true ∧ deqL f (ds.drop (i + 1)) (es.drop (i + 1)) = some b) ∨ (r = false ∧ b = false))) X.xe s' := by
  obtain ⟨Z1, H1, I1, st1, g1⟩ := l
  have i1 : i < its.length := by simpa using h1
  have i2 : i < its2.length := by simpa using h2
  have j1 : i < vs.length := by rw [rv.length]; exact i1
  have j2 : i < ws.length := by rw [rw_.length]; exact i2
  obtain ⟨x, ex, rx⟩ := rd.getV (List.getElem?_eq_getElem j1)
  obtain ⟨y, ey, ry⟩ := re.getV (List.getElem?_eq_getElem j2)
  obtain ⟨u, hu, ru⟩ := rv.get (List.getElem?_eq_getElem j1)
  obtain ⟨v, hv, rv'⟩ := rw_.get (List.getElem?_eq_getElem j2)
  have eu : its.toArray[i] = u := by
    rw [List.getElem?_eq_getElem i1] at hu
    simpa using Option.some.inj hu
  have ev : its2.toArray[i] = v := by
    rw [List.getElem?_eq_getElem i2] at hv
    simpa using Option.some.inj hv
  rw [eu, ev]
  rcases deqL_at i hb ex ey with ⟨q1, q2⟩ | ⟨q1, q2⟩
  · refine wpAny_mono (h A.in1 pins s' σ H1 _ _ u v Z1 μ x y true sb.in1 I1 ru rv' g1 (rx.mono st1.le) (ry.mono st1.le) q1) (fun r s2 ⟨er, Z2, H2, I2, st2, g2⟩ => ?_) fun _ _ z => z
    exact ⟨⟨Z2, H2, I2, st1.trans st2, g2⟩, .inl ⟨er, q2⟩⟩
  · refine wpAny_mono (h A.in1 pins s' σ H1 _ _ u v Z1 μ x y false sb.in1 I1 ru rv' g1 (rx.mono st1.le) (ry.mono st1.le) q1) (fun r s2 ⟨er, Z2, H2, I2, st2, g2⟩ => ?_) fun _ _ z => z
    exact ⟨⟨Z2, H2, I2, st1.trans st2, g2⟩, .inr ⟨er, q2⟩⟩
/-- an own method called below the body -/
theorem own_runA {A : Around} {f : Addr} {fd : FuncData} {ps : List Str} {ds : List D} {vs : List V} {us : List Value} {Q : VK} {pins : List (Addr × Obj)} {σ : St} {H : Hp} {s : Shared} {Z : Wd} {μ : Store} (F : GnOk X.prog X.w X.K X.mg X.base k f fd ps (spM (tb X c) ps.length m)) (hb : Binds X.K fd ps []) (hl : ds.length = ps.length) (sb : SubG X k A) (tk : Takes X W)
    (I : Inv X pins σ H s) (r : Vals vs us) (g : Good (tb X c) Z H μ) (rd : Reps (tb X c) Z ds vs) (hq : post (tb X c) (Rep (tb X c)) W Z H σ (m ds μ) Q) : wpAny (model X.prog X.w) A (call (.ref f) us) (EP X pins σ Q) X.xe s := by
  have hu : us.length = ps.length := by rw [← r.length, ← rd.length, hl]
  have b := hb s us I.kIn (by rw [List.append_nil]; exact hu)
  rw [List.append_nil] at b
  have e := I.env0
  have e0 : Env0 X.prog X.w X.K X.mg X.base A X.stack s H := ⟨by rw [sb.fr]; exact e.frames, e.mod, e.bs, e.bsz, e.funs, e.frf, e.hok, e.bare⟩
  refine wpAny_call (codeAny_mono (F.run A X.stack s H ⟨us, []⟩ us vs Q (WE W σ) sb.room sb.gd e0 b r ⟨by rw [r.length, hu], Z, ds, μ, g, rd, post_w hq fun _ _ _ z => z⟩) fun r s' hq => ?_)
  have z := end_of tk (fun _ _ _ q => q) I hq
  cases r with
  | error e => exact z
  | ok fl =>
    cases fl with
    | ret u => exact z
    | next => exact False.elim z
    | brk => exact False.elim z
    | cont => exact False.elim z
/-- what the own == of the class n makes of two instances with flat fields -/
structure LeafQ (n : Nat) (m : Mir) (q : List (Str × D) → List (Str × D) → Option Bool) : Prop where
  run : ∀ fs gs b μ, q fs gs = some b → m [.ins n fs, .ins n gs] μ = .ok (.bl b) μ
  self : ∀ fs b, q fs fs = some b → b = true
theorem eqds_flat {A : Around} {pins : List (Addr × Obj)} {s : Shared} {σ : St} {H : Hp} {x y : V} {u v : Value} {Z : Wd} {μ : Store} {dx dy : D} {a b : V} (I : Inv X pins σ H s) (rx : RelV x u) (ry : RelV y v) (g : Good (tb X c) Z H μ) (r1 : Rep (tb X c) Z dx x) (r2 : Rep (tb X c) Z dy y) (e1 : scV dx = some a) (e2 : scV dy = some b) :
    wpAny (model X.prog X.w) A (eqBool u v) (fun r s' => r = eqV a b ∧ EqPost X c pins σ μ Z H s') X.xe s := by
  obtain ⟨rfl, f1⟩ := scV_rep r1 e1
  obtain ⟨rfl, f2⟩ := scV_rep r2 e2
  exact eqAt_V (A := A) (s := s) rx ry f1 f2 X.prog X.w X.xe _ ⟨rfl, Z, H, I, Step.rfl, g⟩
theorem eqds_leaf {A : Around} {pins : List (Addr × Obj)} {s : Shared} {σ : St} {H : Hp} {x y : V} {u v : Value} {Z : Wd} {μ : Store} {fs gs : List (Str × D)} {b : Bool} (O : OwnOp X c k n 2 "__eq__" m) (L : LeafQ n m q) (hn : PySem.W.notFirst X.K (c n) (.ref (c n)) = true) (tk : Takes X W) (sb : SubG X k A)
    (I : Inv X pins σ H s) (rx : RelV x u) (ry : RelV y v) (g : Good (tb X c) Z H μ) (r1 : Rep (tb X c) Z (.ins n fs) x) (r2 : Rep (tb X c) Z (.ins n gs) y) (f1 : flatF fs = true) (f2 : flatF gs = true) (e : q fs gs = some b) :
    wpAny (model X.prog X.w) A (eqBool u v) (fun r s' => r = b ∧ EqPost X c pins σ μ Z H s') X.xe s := by
  have r1' := r1
  have r2' := r2
  cases r1 with
  | @ins a1 dx1 _ vs1 _ h1 q1 =>
    cases r2 with
    | @ins a2 dx2 _ vs2 _ h2 q2 =>
      obtain rfl : u = Value.ref a1 := rx
      obtain rfl : v = Value.ref a2 := ry
      by_cases ha : a1 = a2
      · subst ha
        have ev : vs1 = vs2 := by
          have z := h1.symm.trans h2
          injection z with z
          injection z
        subst ev
        have eq := flat_inj q1 q2 f1 f2
        subst eq
        have eb := L.self _ _ e
        exact SeqAt.EqAt.same (A := A) (s := s) (.ref a1) X.prog X.w X.xe _ ⟨eb.symm, Z, H, I, Step.rfl, g⟩
      · obtain ⟨f, fd, ps, hs, hf, F, hb, hl⟩ := O.ex
        obtain ⟨mA, OM, _, _, _, _⟩ := ins_get I.hok (g.sub _ _ h1)
        obtain ⟨od, J1, _⟩ := OM.look
        obtain ⟨mB, OM2, _, _, _, _⟩ := ins_get I.hok (g.sub _ _ h2)
        obtain ⟨od2, J2, _⟩ := OM2.look
        obtain ⟨mF, hF⟩ := I.fr
        have hp : post (tb X c) (Rep (tb X c)) W Z H σ (m [.ins n fs, .ins n gs] μ) (fun w H' => w = .bl b ∧ ∃ Z', Step Z H Z' H' ∧ Good (tb X c) Z' H' μ) := by
          rw [L.run _ _ _ _ e]
          intro Z' H' w l g' r
          cases r
          exact ⟨rfl, Z', l, g'⟩
        refine GQ.eqBool_refG ha (PySem.W.cmp_K (op := .Eq) sb.room.units0 hF I.ok.mod.kin J1 J2.type hn hs hf (wpAny_mono (own_runA F hb (by rw [hl]; rfl) sb tk I (vs := [.ref a1, .ref a2]) (.cons rfl (.cons rfl .nil)) g (.cons r1' (.cons r2' .nil)) hp) (fun w s' z => ?_) fun _ _ z => z))
        obtain ⟨y', H', I', ry', eb, Z', l, g'⟩ := z
        subst eb
        obtain rfl : w = Value.bool b := ry'
        exact ⟨b, rfl, rfl, Z', H', I', l, g'⟩
/-- two tuples, by == or != -/
theorem rc_tupD {f : D → D → Option Bool} {A : Around} {pins : List (Addr × Obj)} {s : Shared} {σ : St} {H : Hp} {x y : V} {u v : Value} {Z : Wd} {μ : Store} {ds es : List D} {b : Bool} (ne : Bool) (h : EqDS X c k f) (sb : SubG X (k + 1) A)
    (I : Inv X pins σ H s) (rx : RelV x u) (ry : RelV y v) (g : Good (tb X c) Z H μ) (r1 : Rep (tb X c) Z (.tup ds) x) (r2 : Rep (tb X c) Z (.tup es) y) (e : deqL f ds es = some b) :
    ∃ l1 l2, u = .ref l1 ∧ v = .ref l2 ∧ wpAny (model X.prog X.w) A (richCompare (if ne then .NotEq else .Eq) u v) (fun r s' => r = .bool (b != ne) ∧ EqPost X c pins σ μ Z H s') X.xe s := by
  cases r1 with
  | @tup a1 vs1 _ h1 q1 =>
    cases r2 with
    | @tup a2 vs2 _ h2 q2 =>
      obtain rfl : u = Value.ref a1 := rx
      obtain rfl : v = Value.ref a2 := ry
      refine ⟨a1, a2, rfl, rfl, ?_⟩
      obtain ⟨its, rv, pl, _⟩ := I.tuple (Same.sqt g.sub h1)
      obtain ⟨its2, rv2, pl2, _⟩ := I.tuple (Same.sqt g.sub h2)
      have hl := deqL_len e
      have hsz : its.toArray.size = its2.toArray.size := by
        rw [List.size_toArray, List.size_toArray, ← rv.length, ← rv2.length, ← q1.length, ← q2.length, hl]
      have hlen : its.toArray.size = ds.length := by rw [List.size_toArray, ← rv.length, ← q1.length]
      obtain ⟨⟨cls, dd, data, sl⟩, ho, hc, n1, hd⟩ := pl
      obtain ⟨⟨cls2, dd2, data2, sl2⟩, ho2, hc2, n2, hd2⟩ := pl2
      simp only at hc hd hc2 hd2
      subst hc hd hc2 hd2
      have go : ∀ i (k1 : i < its.toArray.size) (k2 : i < its2.toArray.size) s', (EqPost X c pins σ μ Z H s' ∧ deqL f (ds.drop i) (es.drop i) = some b) →
          Turn X.prog X.w A (wants (fun v s' => v ≠ .notImplemented ∧ v = .bool (b != ne) ∧ EqPost X c pins σ μ Z H s') X.xe) ne its.toArray[i] its2.toArray[i] i (fun i s' => EqPost X c pins σ μ Z H s' ∧ deqL f (ds.drop i) (es.drop i) = some b) s' := fun i k1 k2 s' ⟨l, hb⟩ => by
        refine wpAny_mono (turn_d h sb rv rv2 q1 q2 i k1 k2 s' l hb) (fun r s2 ⟨l2, z⟩ => ?_) fun _ _ z => z
        rcases z with ⟨rfl, z⟩ | ⟨rfl, rfl⟩
        · exact (if_pos rfl).mpr ⟨l2, z⟩
        · refine (if_neg (by decide)).mpr ?_
          exact ⟨(fun x => nomatch x), by cases ne <;> rfl, l2⟩
      have fin : ∀ s', (EqPost X c pins σ μ Z H s' ∧ deqL f (ds.drop its.toArray.size) (es.drop its.toArray.size) = some b) → wants (fun v s' => v ≠ .notImplemented ∧ v = .bool (b != ne) ∧ EqPost X c pins σ μ Z H s') X.xe (.ok (.ret (.bool (!ne)))) s' := fun s' ⟨l, hb⟩ => by
        have eb := deqL_end hb (by omega) (by omega)
        subst eb
        exact ⟨(fun x => nomatch x), by cases ne <;> rfl, l⟩
      cases ne with
      | false => exact wpAny_richCompare_same_room (op := .Eq) ⟨_, ho, rfl⟩ ⟨_, ho2, rfl⟩ F.slot_tuple_eq (GQ.call_here F.slot_tuple_eq ⟨_, ho, rfl⟩ F.entry_tuple_eq (F.args_tuple_eq_2 _ _) (tup_eq2 hsz go fin ho ho2 ⟨⟨Z, H, I, Step.rfl, g⟩, e⟩)) sb.room.units0
      | true => exact wpAny_richCompare_same_room (op := .NotEq) ⟨_, ho, rfl⟩ ⟨_, ho2, rfl⟩ F.slot_tuple_ne (GQ.call_here F.slot_tuple_ne ⟨_, ho, rfl⟩ F.entry_tuple_ne (F.args_tuple_ne_2 _ _) (tup_ne2 hsz go fin ho ho2 ⟨⟨Z, H, I, Step.rfl, g⟩, e⟩)) sb.room.units0
/-- two lists -/
theorem rc_lstD {f : D → D → Option Bool} {A : Around} {pins : List (Addr × Obj)} {s : Shared} {σ : St} {H : Hp} {x y : V} {u v : Value} {Z : Wd} {μ : Store} {ds es : List D} {b : Bool} (ne : Bool) (h : EqDS X c k f) (sb : SubG X (k + 1) A)
    (I : Inv X pins σ H s) (rx : RelV x u) (ry : RelV y v) (g : Good (tb X c) Z H μ) (r1 : Rep (tb X c) Z (.lst ds) x) (r2 : Rep (tb X c) Z (.lst es) y) (e : deqL f ds es = some b) :
    ∃ l1 l2, u = .ref l1 ∧ v = .ref l2 ∧ wpAny (model X.prog X.w) A (richCompare (if ne then .NotEq else .Eq) u v) (fun r s' => r = .bool (b != ne) ∧ EqPost X c pins σ μ Z H s') X.xe s := by
  cases r1 with
  | @lst a1 vs1 _ h1 q1 =>
    cases r2 with
    | @lst a2 vs2 _ h2 q2 =>
      obtain rfl : u = Value.ref a1 := rx
      obtain rfl : v = Value.ref a2 := ry
      refine ⟨a1, a2, rfl, rfl, ?_⟩
      have hl := deqL_len e
      have rd : ∀ s', EqPost X c pins σ μ Z H s' → ∃ (its its2 : List Value) (n n2 : Nat), Vals vs1 its ∧ Vals vs2 its2 ∧ s'.heap.get? a1 = some { cls := .type "list", data := .seq its.toArray n } ∧ s'.heap.get? a2 = some { cls := .type "list", data := .seq its2.toArray n2 } := fun s' ⟨Z1, H1, I1, st, g1⟩ => by
        obtain ⟨z1, its, n1, rv, o1⟩ := I1.hok a1 _ (g1.sub _ _ (st.le.g _ _ h1))
        obtain ⟨z2, its2, n2, rv2, o2⟩ := I1.hok a2 _ (g1.sub _ _ (st.le.g _ _ h2))
        exact ⟨its, its2, n1, n2, rv, rv2, o1, o2⟩
      have hJ : ListJ X.prog X.w A (wants (fun v s' => v ≠ .notImplemented ∧ v = .bool (b != ne) ∧ EqPost X c pins σ μ Z H s') X.xe) ne a1 a2 ds.length (fun i s' => EqPost X c pins σ μ Z H s' ∧ deqL f (ds.drop i) (es.drop i) = some b) := fun i s' ⟨l, hb⟩ => by
        obtain ⟨its, its2, n1, n2, rv, rv2, o1, o2⟩ := rd s' l
        refine ⟨its.toArray, its2.toArray, n1, n2, o1, o2, by rw [List.size_toArray, ← rv.length, ← q1.length], by rw [List.size_toArray, ← rv2.length, ← q2.length, hl], fun k1 k2 => ?_⟩
        refine wpAny_mono (turn_d h sb rv rv2 q1 q2 i k1 k2 s' l hb) (fun r s2 ⟨l2, z⟩ => ?_) fun _ _ z => z
        rcases z with ⟨rfl, z⟩ | ⟨rfl, rfl⟩
        · exact ⟨fun _ => ⟨l2, z⟩, (fun z => nomatch z)⟩
        · refine ⟨(fun z => nomatch z), fun _ => ⟨?_, (fun x => nomatch x), by cases ne <;> rfl, l2⟩⟩
          obtain ⟨its3, its4, m1, m2, rv3, rv4, p1, p2⟩ := rd s2 l2
          exact ⟨_, _, m1, m2, p1, p2, by rw [List.size_toArray, ← rv3.length, ← q1.length], by rw [List.size_toArray, ← rv4.length, ← q2.length, hl]⟩
      have fin : ∀ s', (EqPost X c pins σ μ Z H s' ∧ deqL f (ds.drop ds.length) (es.drop ds.length) = some b) → wants (fun v s' => v ≠ .notImplemented ∧ v = .bool (b != ne) ∧ EqPost X c pins σ μ Z H s') X.xe (.ok (.ret (.bool (!ne)))) s' := fun s' ⟨l, hb⟩ => by
        have eb := deqL_end hb (Nat.le_refl _) (by omega)
        subst eb
        exact ⟨(fun x => nomatch x), by cases ne <;> rfl, l⟩
      obtain ⟨its, its2, n1, n2, rv, rv2, o1, o2⟩ := rd s ⟨Z, H, I, Step.rfl, g⟩
      cases ne with
      | false => exact wpAny_richCompare_same_room (op := .Eq) ⟨_, o1, rfl⟩ ⟨_, o2, rfl⟩ F.slot_list_eq (GQ.call_here F.slot_list_eq ⟨_, o1, rfl⟩ F.entry_list_eq (F.args_list_eq_2 _ _) (lst_eq2 hJ fin ⟨⟨Z, H, I, Step.rfl, g⟩, e⟩)) sb.room.units0
      | true => exact wpAny_richCompare_same_room (op := .NotEq) ⟨_, o1, rfl⟩ ⟨_, o2, rfl⟩ F.slot_list_ne (GQ.call_here F.slot_list_ne ⟨_, o1, rfl⟩ F.entry_list_ne (F.args_list_ne_2 _ _) (lst_ne2 hJ fin ⟨⟨Z, H, I, Step.rfl, g⟩, e⟩)) sb.room.units0
/-- from a rich comparison to == inside -/
theorem eqb_of {A : Around} {pins : List (Addr × Obj)} {s : Shared} {σ : St} {H : Hp} {u v : Value} {Z : Wd} {μ : Store} {b : Bool} {l1 l2 : Addr} (e1 : u = .ref l1) (e2 : v = .ref l2) (hself : l1 = l2 → b = true) (I : Inv X pins σ H s) (g : Good (tb X c) Z H μ)
    (h : wpAny (model X.prog X.w) A (richCompare .Eq u v) (fun r s' => r = .bool (b != false) ∧ EqPost X c pins σ μ Z H s') X.xe s) : wpAny (model X.prog X.w) A (eqBool u v) (fun r s' => r = b ∧ EqPost X c pins σ μ Z H s') X.xe s := by
  subst e1 e2
  by_cases ha : l1 = l2
  · subst ha
    exact SeqAt.EqAt.same (A := A) (s := s) (.ref l1) X.prog X.w X.xe _ ⟨(hself rfl).symm, Z, H, I, Step.rfl, g⟩
  · refine GQ.eqBool_refG ha (wpAny_mono h (fun r s' ⟨e, p⟩ => ⟨b, ?_, rfl, p⟩) fun _ _ z => z)
    rw [e]
    cases b <;> rfl
theorem deq_tt {k' : Nat} {x y : D} {b : Bool} (h : deq n q k' x y = some b) : (∃ a b', scV x = some a ∧ scV y = some b' ∧ b = eqV a b') ∨ (∃ fs gs, x = .ins n fs ∧ y = .ins n gs ∧ flatF fs = true ∧ flatF gs = true ∧ q fs gs = some b) ∨
    (∃ j xs ys, k' = j + 1 ∧ b = true ∧ deqL (deq n q j) xs ys = some true ∧ ((x = .tup xs ∧ y = .tup ys) ∨ (x = .lst xs ∧ y = .lst ys))) := by
  unfold deq at h
  split at h
  · rename_i a b' e1 e2
    exact .inl ⟨a, b', e1, e2, (Option.some.inj h).symm⟩
  · split at h
    · rename_i i fs j gs _
      split at h
      · rename_i hc
        obtain ⟨rfl, rfl, f1, f2⟩ := hc
        exact .inr (.inl ⟨fs, gs, rfl, rfl, f1, f2, h⟩)
      · cases h
    · rename_i xs ys _
      split at h
      · cases h
      · rename_i j
        split at h
        · rename_i hd
          exact .inr (.inr ⟨j, xs, ys, rfl, (Option.some.inj h).symm, hd, .inl ⟨rfl, rfl⟩⟩)
        · cases h
    · rename_i xs ys _
      split at h
      · cases h
      · rename_i j
        split at h
        · rename_i hd
          exact .inr (.inr ⟨j, xs, ys, rfl, (Option.some.inj h).symm, hd, .inr ⟨rfl, rfl⟩⟩)
        · cases h
    · cases h
/-- what holds of the class n with its own ==, for comparisons of data with its instances -/
theorem eqds_of (O : OwnOp X c k n 2 "__eq__" m) (L : LeafQ n m q) (hn : PySem.W.notFirst X.K (c n) (.ref (c n)) = true) (tk : Takes X W) : ∀ j, EqDS X c (k + j) (deq n q j) := by
  intro j
  induction j with
  | zero =>
    intro A pins s σ H x y u v Z μ dx dy b sb I rx ry g r1 r2 e
    rcases deq_tt e with ⟨a, b', e1, e2, rfl⟩ | ⟨fs, gs, rfl, rfl, f1, f2, e⟩ | ⟨j, xs, ys, z, _⟩
    · exact eqds_flat I rx ry g r1 r2 e1 e2
    · exact eqds_leaf O L hn tk sb I rx ry g r1 r2 f1 f2 e
    · cases z
  | succ j ih =>
    intro A pins s σ H x y u v Z μ dx dy b sb I rx ry g r1 r2 e
    rcases deq_tt e with ⟨a, b', e1, e2, rfl⟩ | ⟨fs, gs, rfl, rfl, f1, f2, e⟩ | ⟨j', xs, ys, z, rfl, ee, hxy⟩
    · exact eqds_flat I rx ry g r1 r2 e1 e2
    · exact eqds_leaf O L hn tk (sb.mono (Nat.le_add_right _ _)) I rx ry g r1 r2 f1 f2 e
    · cases z
      rcases hxy with ⟨rfl, rfl⟩ | ⟨rfl, rfl⟩
      · obtain ⟨l1, l2, e1, e2, h⟩ := rc_tupD false ih sb I rx ry g r1 r2 ee
        exact eqb_of e1 e2 (fun _ => rfl) I g h
      · obtain ⟨l1, l2, e1, e2, h⟩ := rc_lstD false ih sb I rx ry g r1 r2 ee
        exact eqb_of e1 e2 (fun _ => rfl) I g h
/-- == (ne: !=) of two tuples or two lists -/
def deqF (ne : Bool) (n : Nat) (q : List (Str × D) → List (Str × D) → Option Bool) (j : Nat) : D → D → Store → Res D := fun x y μ => match x, y with
  | .tup xs, .tup ys => ofO ((deqL (deq n q j) xs ys).map fun b => .bl (b != ne)) μ
  | .lst xs, .lst ys => ofO ((deqL (deq n q j) xs ys).map fun b => .bl (b != ne)) μ
  | _, _ => .bad
theorem ow_deq {j : Nat} (ne : Bool) (O : OwnOp X c k n 2 "__eq__" m) (L : LeafQ n m q) (hn : PySem.W.notFirst X.K (c n) (.ref (c n)) = true) (tk : Takes X W) (hr : Room (k + j + 1) X.A) (hG : X.A.guards = some []) : OpW X c W (richCompare (if ne then .NotEq else .Eq)) (deqF ne n q j) := by
  intro pins s σ H x y u v Z μ dx dy Q I rx ry g r1 r2 hq
  have sb : SubG X (k + j + 1) X.A := ⟨hr, rfl, hG⟩
  have ih := eqds_of O L hn tk j
  have fin : ∀ {b : Bool}, post (tb X c) (Rep (tb X c)) W Z H σ (Res.ok (D.bl (b != ne)) μ) Q → wpAny (model X.prog X.w) X.A (richCompare (if ne then .NotEq else .Eq) u v) (fun r s' => r = .bool (b != ne) ∧ EqPost X c pins σ μ Z H s') X.xe s → wpAny (model X.prog X.w) X.A (richCompare (if ne then .NotEq else .Eq) u v) (EP X pins σ Q) X.xe s := fun {b} hp h =>
    wpAny_mono h (fun r s' ⟨e, Z', H', I', st, g'⟩ => ⟨.bl (b != ne), H', I', e, hp Z' H' _ st g' (.bl _)⟩) fun _ _ z => z
  unfold deqF at hq
  split at hq
  · rename_i xs ys
    cases e : deqL (deq n q j) xs ys with
    | none =>
      rw [e] at hq
      exact False.elim hq
    | some b =>
      rw [e] at hq
      obtain ⟨_, _, _, _, h⟩ := rc_tupD ne ih sb I rx ry g r1 r2 e
      exact fin hq h
  · rename_i xs ys
    cases e : deqL (deq n q j) xs ys with
    | none =>
      rw [e] at hq
      exact False.elim hq
    | some b =>
      rw [e] at hq
      obtain ⟨_, _, _, _, h⟩ := rc_lstD ne ih sb I rx ry g r1 r2 e
      exact fin hq h
  · exact False.elim hq
end
end DL

set_option Elab.async false
set_option linter.all false
set_option autoImplicit false
set_option maxRecDepth 100000
/-! DL, part Mf: arguments by name and defaults, *args, in, str(..) by own code. -/
namespace DL
open PySem L2 PySem.W PySem.Calls PyProof.Rows

/-! ### where a parameter's value comes from -/
inductive Src where
  | pos (i : Nat)
  | kw (j : Nat)
  | dfl (j : Nat)
def pick {α : Type} (z : α) (p : List Src) (dd us ws : List α) : List α := p.map fun q => match q with
  | .pos i => us.getD i z
  | .kw j => ws.getD j z
  | .dfl j => dd.getD j z
theorem valsGetN {vs : List V} {us : List Value} (r : Vals vs us) (i : Nat) : RelV (vs.getD i .non) (us.getD i .none) := by
  rw [List.getD_eq_getElem?_getD, List.getD_eq_getElem?_getD]
  by_cases h : i < vs.length
  · obtain ⟨u, hu, ru⟩ := r.get (List.getElem?_eq_getElem h)
    rw [hu, List.getElem?_eq_getElem h]
    exact ru
  · rw [List.getElem?_eq_none (by omega), List.getElem?_eq_none (by rw [← r.length]; omega)]
    rfl
theorem repsGetN {T : Tab} {Z : Wd} {ds : List D} {vs : List V} (r : Reps T Z ds vs) (i : Nat) : Rep T Z (ds.getD i .non) (vs.getD i .non) := by
  rw [List.getD_eq_getElem?_getD, List.getD_eq_getElem?_getD]
  by_cases h : i < ds.length
  · obtain ⟨u, hu, ru⟩ := r.get (List.getElem?_eq_getElem h)
    rw [hu, List.getElem?_eq_getElem h]
    exact ru
  · rw [List.getElem?_eq_none (by omega), List.getElem?_eq_none (by rw [← r.length]; omega)]
    exact .non
theorem vals_pick {dv vs zs : List V} {dd us ws : List Value} (r : Vals dv dd) (r1 : Vals vs us) (r2 : Vals zs ws) : ∀ p : List Src, Vals (pick .non p dv vs zs) (pick .none p dd us ws)
  | [] => .nil
  | .pos i :: p => .cons (valsGetN r1 i) (vals_pick r r1 r2 p)
  | .kw i :: p => .cons (valsGetN r2 i) (vals_pick r r1 r2 p)
  | .dfl i :: p => .cons (valsGetN r i) (vals_pick r r1 r2 p)
theorem reps_pick {T : Tab} {Z : Wd} {dd ds es : List D} {dv vs zs : List V} (r : Reps T Z dd dv) (r1 : Reps T Z ds vs) (r2 : Reps T Z es zs) : ∀ p : List Src, Reps T Z (pick .non p dd ds es) (pick .non p dv vs zs)
  | [] => .nil
  | .pos i :: p => .cons (repsGetN r1 i) (reps_pick r r1 r2 p)
  | .kw i :: p => .cons (repsGetN r2 i) (reps_pick r r1 r2 p)
  | .dfl i :: p => .cons (repsGetN r i) (reps_pick r r1 r2 p)
section
variable {K : PySem.W.Frag} {cl : Nat → Addr} {x qual : Str} {params : Arguments} {body : List Stmt} {scope : Scope} {f : Addr} {fd : FuncData} {ps ks : List Str} {np : Nat} {p : List Src}
/-- no defaults are used -/
theorem kb_0 (F : FunD K x qual params body scope [] [] f fd) (hp : p.length = ps.length)
    (h : ∀ (kV doc pm : Value) (an : Option Addr) (cdv ct : Value) (us ws : List Value), us.length = np → ws.length = ks.length → bindArgs (fnOf x qual params body scope .none kV doc pm an cdv ct) ⟨us, ks.zip ws⟩ = pure (ps.zip (pick .none p [] us ws))) : KB ⟨K, cl⟩ fd ps ks np (pick .non p []) := by
  obtain ⟨oc, od, dV, kV, doc, pm, an, cdv, ct, osl, rfl, lk, hcd, hD, _⟩ := F.ex
  rcases hD with ⟨_, rfl⟩ | ⟨e, _⟩
  · intro s us ws KX hu hw
    refine ⟨pick .none p [] us ws, by rw [pick, List.length_map, hp], .of_eq (h kV doc pm an cdv ct us ws hu hw), fun vs zs r1 r2 => ⟨pick .non p [] vs zs, vals_pick .nil r1 r2 p, fun Z ds es q1 q2 => reps_pick .nil q1 q2 p⟩⟩
  · exact absurd rfl e
/-- all given, by a def that has defaults -/
theorem kb_a {dvs : List V} (F : FunD K x qual params body scope dvs [] f fd) (hd : dvs ≠ []) (hp : p.length = ps.length)
    (h : ∀ (T : Addr) (kV doc pm : Value) (an : Option Addr) (cdv ct : Value) (us ws : List Value), us.length = np → ws.length = ks.length → bindArgs (fnOf x qual params body scope (.ref T) kV doc pm an cdv ct) ⟨us, ks.zip ws⟩ = pure (ps.zip (pick .none p [] us ws))) : KB ⟨K, cl⟩ fd ps ks np (pick .non p []) := by
  obtain ⟨oc, od, dV, kV, doc, pm, an, cdv, ct, osl, rfl, lk, hcd, hD, _⟩ := F.ex
  rcases hD with ⟨e, _⟩ | ⟨_, T, o, its, m, rfl, lT, oT, rT⟩
  · exact absurd e hd
  · intro s us ws KX hu hw
    exact ⟨pick .none p [] us ws, by rw [pick, List.length_map, hp], .of_eq (h T kV doc pm an cdv ct us ws hu hw), fun vs zs r1 r2 => ⟨pick .non p [] vs zs, vals_pick .nil r1 r2 p, fun Z ds es q1 q2 => reps_pick .nil q1 q2 p⟩⟩
/-- defaults fill up -/
theorem kb_d {dvs : List V} {dd : List D} (F : FunD K x qual params body scope dvs [] f fd) (hd : dvs ≠ []) (hp : p.length = ps.length) (hr : ∀ Z, Reps ⟨K, cl⟩ Z dd dvs)
    (h : ∀ (T : Addr) (kV doc pm : Value) (an : Option Addr) (cdv ct : Value) (us ws its : List Value), us.length = np → ws.length = ks.length → its.length = dvs.length →
      ∃ k, bindArgs (fnOf x qual params body scope (.ref T) kV doc pm an cdv ct) ⟨us, ks.zip ws⟩ = seqItems? (.ref T) >>= k ∧ k (some its.toArray) = pure (ps.zip (pick .none p its us ws))) : KB ⟨K, cl⟩ fd ps ks np (pick .non p dd) := by
  obtain ⟨oc, od, dV, kV, doc, pm, an, cdv, ct, osl, rfl, lk, hcd, hD, _⟩ := F.ex
  rcases hD with ⟨e, _⟩ | ⟨_, T, o, its, m, rfl, lT, oT, rT⟩
  · exact absurd e hd
  · intro s us ws KX hu hw
    obtain ⟨k, e1, e2⟩ := h T kV doc pm an cdv ct us ws its hu hw rT.length.symm
    refine ⟨pick .none p its us ws, by rw [pick, List.length_map, hp], BindsTo.of_looks fun M => ?_, fun vs zs r1 r2 => ⟨pick .non p dvs vs zs, vals_pick rT r1 r2 p, fun Z ds es q1 q2 => reps_pick (hr Z) q1 q2 p⟩⟩
    rw [e1]
    exact looks_items KX lT oT (.of_pure e2)
end
/-! ### a def as it stands, with its contract -/
structure Df (P : Program) (w : World) (K : PySem.W.Frag) (mg : Str → Option Value) (base : Heap) (cl : Nat → Addr) (k : Nat) (nm qual : Str) (st : Stmt) (dvs : List V) (f : Addr) (ps : List Str) (m : Mir) : Prop where
  ex : ∃ fd, FunD K nm qual (defArgs st) (defBody st) (defScope st) dvs [] f fd ∧ GnOk P w K mg base k f fd ps (spM ⟨K, cl⟩ ps.length m) ∧ (dvs = [] → Binds K fd ps [])
theorem fn_u {P : Program} {w : World} {K : PySem.W.Frag} {mg : Str → Option Value} {base : Heap} {cl : Nat → Addr} {k : Nat} {f : Addr} {fd : FuncData} {nm qual : Str} {st : Stmt} {dvs : List V} {N ps : List Str} {δ : DenS}
    (F : FunD K nm qual (defArgs st) (defBody st) (defScope st) dvs [] f fd) (S : FnScope N ps (defScope st))
    (hbd : ∀ (kV doc pm : Value) (an : Option Addr) (cdv ct : Value) (us : List Value), us.length = ps.length → bindArgs (fnOf nm qual (defArgs st) (defBody st) (defScope st) .none kV doc pm an cdv ct) ⟨us, []⟩ = pure (ps.zip us))
    (hb : ∀ (cdv : Value) (A : Around) (outer : List PySem.Env) (s : Shared) (H : Hp) (E : XK), Cd (cxOf (L2.CX P w) P w K mg base N qual (defScope st) f cdv A outer s H E) (fun cls d _ H' => E cls d H') k N (defScope st) →
      PSs (cxOf (L2.CX P w) P w K mg base N qual (defScope st) f cdv A outer s H E) (defBody st) (rdS ⟨K, cl⟩ (fun cls d _ H' => E cls d H') δ)) : Df P w K mg base cl (k + 1) nm qual st dvs f ps (runBody N.length δ) := by
  refine ⟨fd, F, ?_, fun e => by subst e; exact F.bindsN hbd⟩
  obtain ⟨oc, od, dV, kV, doc, pm, an, cdv, ct, osl, rfl, lk, hcd, hD, _⟩ := F.ex
  exact fn_d2 lk hcd S fun A outer s H E hr hG tk po => hb cdv A outer s H E ⟨⟨rfl, rfl, S.nd, rfl, hr, hG, tk, po, S.kind⟩, fun _ => rfl⟩
/-! ### *args -/
structure GsOk (P : Program) (w : World) (K : PySem.W.Frag) (mg : Str → Option Value) (base : Heap) (cl : Nat → Addr) (k : Nat) (f : Addr) (np : Nat) (m : Mir) : Prop where
  run : ∀ (A : Around) (outer : List PySem.Env) (s : Shared) (H : Hp) (us : List Value) (vs : List V) (Q : VK) (E : XK) (Z : Wd) (ds : List D) (μ : Store), Room k A → A.guards = some [] → Env0 P w K mg base A outer s H → Vals vs us → Good ⟨K, cl⟩ Z H μ → Reps ⟨K, cl⟩ Z ds vs → np ≤ ds.length → ds.length ≤ sizeLine →
    post ⟨K, cl⟩ (Rep ⟨K, cl⟩) (fun cls d _ H' => E cls d H') Z H [] (m (ds.take np ++ [.tup (ds.drop np)]) μ) Q → codeAny (model P w) A (.call (.ref f) ⟨us, []⟩) (CR (L2.CX P w) outer P w H s Q E) s
theorem Reps.take {T : Tab} {Z : Wd} : ∀ {ds : List D} {vs : List V} (n : Nat), Reps T Z ds vs → Reps T Z (ds.take n) (vs.take n)
  | _, _, 0, _ => by rw [List.take_zero, List.take_zero]; exact .nil
  | _, _, _ + 1, .nil => .nil
  | _, _, n + 1, .cons h r => .cons h (Reps.take n r)
theorem Reps.drop {T : Tab} {Z : Wd} : ∀ {ds : List D} {vs : List V} (n : Nat), Reps T Z ds vs → Reps T Z (ds.drop n) (vs.drop n)
  | _, _, 0, r => r
  | _, _, _ + 1, .nil => .nil
  | _, _, n + 1, .cons _ r => Reps.drop n r
theorem vals_take : ∀ {vs : List V} {us : List Value} (n : Nat), Vals vs us → Vals (vs.take n) (us.take n)
  | _, _, 0, _ => by rw [List.take_zero, List.take_zero]; exact .nil
  | _, _, _ + 1, .nil => .nil
  | _, _, n + 1, .cons h r => .cons h (vals_take n r)
theorem vals_drop : ∀ {vs : List V} {us : List Value} (n : Nat), Vals vs us → Vals (vs.drop n) (us.drop n)
  | _, _, 0, r => r
  | _, _, _ + 1, .nil => .nil
  | _, _, n + 1, .cons _ r => vals_drop n r
theorem fn_s {P : Program} {w : World} {K : PySem.W.Frag} {mg : Str → Option Value} {base : Heap} {cl : Nat → Addr} {k : Nat} {f : Addr} {fd : FuncData} {nm qual pv : Str} {st : Stmt} {N ps : List Str} {δ : DenS}
    (F : FunD K nm qual (defArgs st) (defBody st) (defScope st) [] [] f fd) (S : FnScope N (ps ++ [pv]) (defScope st))
    (hbd : ∀ (kV doc pm : Value) (an : Option Addr) (cdv ct : Value) (us rest : List Value), us.length = ps.length → bindArgs (fnOf nm qual (defArgs st) (defBody st) (defScope st) .none kV doc pm an cdv ct) ⟨us ++ rest, []⟩ = (newTuple rest >>= fun t => pure (ps.zip us ++ [(pv, t)])))
    (hb : ∀ (cdv : Value) (A : Around) (outer : List PySem.Env) (s : Shared) (H : Hp) (E : XK), Cd (cxOf (L2.CX P w) P w K mg base N qual (defScope st) f cdv A outer s H E) (fun cls d _ H' => E cls d H') k N (defScope st) →
      PSs (cxOf (L2.CX P w) P w K mg base N qual (defScope st) f cdv A outer s H E) (defBody st) (rdS ⟨K, cl⟩ (fun cls d _ H' => E cls d H') δ)) : GsOk P w K mg base cl (k + 1) f ps.length (runBody N.length δ) := by
  obtain ⟨oc, od, dV, kV, doc, pm, an, cdv, ct, osl, rfl, lk, hcd, hD, _⟩ := F.ex
  rcases hD with ⟨_, rfl⟩ | ⟨e, _⟩
  · refine ⟨fun A outer s H us vs Q E Z ds μ hr hG e0 r g rd h1 h2 hp => ?_⟩
    have l0 : vs.length = us.length := r.length
    have l1 := rd.length
    have hn : H s.heap.objs.size = Option.none := e0.hok.fresh (Nat.le_refl _)
    have c1 : (us.take ps.length).length = ps.length := by rw [List.length_take]; omega
    have c2 : (us.drop ps.length).length ≤ sizeLine := by rw [List.length_drop]; omega
    have c3 : (vs.drop ps.length).length ≤ sizeLine := by rw [List.length_drop]; omega
    refine StX.run_bnd (CX := L2.CX P w) lk hcd S hr e0 (G := fun xs H2 => ∃ q, H q = Option.none ∧ xs = vs.take ps.length ++ [V.ref q] ∧ H2 = upd H q (.tup (vs.drop ps.length))) (fun A' Ex Q' h => ?_) fun s2 H2 xs ⟨q, hq, ex, eH⟩ hr' => ?_
    · have eu : us = us.take ps.length ++ us.drop ps.length := (List.take_append_drop _ _).symm
      rw [eu, hbd kV doc pm an cdv ct _ _ c1]
      refine wpAny_bind (wpAny_newTuple (wpAny_pure ?_) c2)
      have new : ObjOk P w (upd H s.heap.objs.size (.tup (vs.drop ps.length))) (s.heap.push ({ cls := .type "tuple", data := .seq (us.drop ps.length).toArray } : Obj)) s.heap.objs.size (.tup (vs.drop ps.length)) := ⟨c3, _, vals_drop _ r, ⟨_, Heap.get?_push_size _ rfl, rfl, _, rfl⟩⟩
      have un := StX.un_laid (fs := frs outer) (s := s) (o := ({ cls := .type "tuple", data := .seq (us.drop ps.length).toArray } : Obj)) (u := .tup (vs.drop ps.length)) hn
      have z := h _ _ (vs.take ps.length ++ [V.ref s.heap.objs.size]) (us.take ps.length ++ [Value.ref s.heap.objs.size]) (StX.env0_laid e0 new) un rfl (fun e s' => StX.cxUp outer s H _ _ E e s' un (fun b o q => Heap.get?_push_of_some _ q) rfl) ((vals_take _ r).append (.cons rfl .nil))
        (by rw [List.length_append, List.length_append, List.length_take]; simp; omega) ⟨_, hn, rfl, rfl⟩
      rw [List.zip_append c1.symm] at z
      exact z
    · subst ex eH
      have gd := g.add (.tup (vs.drop ps.length)) hq
      have st1 : Step Z H (Z.add q (.tup (vs.drop ps.length))) (upd H q (.tup (vs.drop ps.length))) := Step.add g hq
      have rall : Reps ⟨K, cl⟩ (Z.add q (.tup (vs.drop ps.length))) (ds.take ps.length ++ [.tup (ds.drop ps.length)]) (vs.take ps.length ++ [V.ref q]) :=
        ((rd.take _).mono st1.le).append (.cons (.tup (SqT.of upd_same) ((rd.drop _).mono st1.le)) .nil)
      refine ⟨_, hb cdv A outer s2 _ E ⟨⟨rfl, rfl, S.nd, rfl, hr', hG, takes_of rfl rfl rfl rfl, passes_of rfl, S.kind⟩, fun _ => rfl⟩, Z.add q (.tup (vs.drop ps.length)), startD N.length (ds.take ps.length ++ [.tup (ds.drop ps.length)]), μ, gd, slots_start rall, ?_⟩
      have hp' := post_st st1 hp
      unfold runBody at hp'
      cases e : δ (startD N.length (ds.take ps.length ++ [.tup (ds.drop ps.length)])) μ with
      | nx ρ1 μ1 =>
        rw [e] at hp'
        exact fun Z' H' σ' l g' _ => hp' Z' H' _ l g' .non
      | rt d μ1 =>
        rw [e] at hp'
        exact hp'
      | exc C fs ρ1 μ1 =>
        rw [e] at hp'
        exact fun Z' H' σ' dx l g' _ ex => hp' Z' H' dx l g' ex
      | bk ρ1 μ1 =>
        rw [e] at hp'
        exact False.elim hp'
      | ct ρ1 μ1 =>
        rw [e] at hp'
        exact False.elim hp'
      | bad =>
        rw [e] at hp'
        exact False.elim hp'
  · exact absurd rfl e
end DL

set_option Elab.async false
set_option linter.all false
set_option autoImplicit false
set_option maxRecDepth 100000
/-! DL, part Mg: calls of classes, methods, classmethods; in, str by own code; words for printed derivations. -/
namespace DL
open PySem L2 PySem.W PySem.Calls PyProof.Rows

section
variable {X : Cx} {c : Nat → Addr} {W : WX} {pos p apos : Pos} {x : Str} {es : List Expr} {kws : List Keyword} {δs δk : DenA} {δ δo : DenE} {k np n : Nat} {f : Addr} {m : Mir} {pins : List (Addr × Obj)} {σ : L2.St} {H : Hp} {s : Shared} {e o : Expr} {nm : Str}
/-! ### C.m(a, ..), m a classmethod with *args -/
def dCMethS (n : Nat) (m : Mir) (δo : DenE) (δs : DenA) : DenE := fun ρ μ => (δo ρ μ).bind fun x μ0 => match x with
  | .cls j => if j = n then (δs ρ μ0).bind fun ds μ1 => (if ds.length < 1000 then m [.cls n, .tup ds] μ1 else .bad) else .bad
  | _ => .bad
theorem de_cmethS {pl : Sem Bool} {mc : Value} {q : Addr} (r : ClX.CRead X.K (c n) mc) (cm : ClX.CMet X.K (c n) mc nm q f) (F : GsOk X.prog X.w X.K X.mg X.base c k f 1 m) (hr : Room k X.A) (hG : X.A.guards = some []) (tk : Takes X W)
    (hnil : es = [] → δs = dNil) (hst : es.all notStar = true) (ho : PE X o (rdE (tb X c) W δo)) (ha : PA X es (rdA (tb X c) W δs))
    (ht : eval (.Call (.Attribute o nm apos) es [] pos) X.env = (do
      let ov ← eval o X.env
      standAt apos.atName
      let (f, first) ← holding [ov] (getMethod ov nm pl)
      callWith pos f first (backTo pos (starEach es X.env)) (backToKw pos (keywordEach [] X.env)))) :
    PE X (.Call (.Attribute o nm apos) es [] pos) (rdE (tb X c) W (dCMethS n m δo δs)) := by
  refine ⟨fun pins s σ H Q I h => ?_⟩
  have h0 := rd_then (R := Rep (tb X c)) (f := fun ρ x μ0 => (match x with
    | .cls j => if j = n then (δs ρ μ0).bind fun ds μ1 => (if ds.length < 1000 then m [.cls n, .tup ds] μ1 else .bad) else .bad
    | _ => .bad : Res D)) h
  refine PySem.W.methodCall_KW (pl := pl) (thn (ho.run pins s σ H _ I h0) fun u s1 ⟨v, H1, I1, rv, Z, ρ, x, μ, gd, sl, rx, q⟩ => ?_) ht
  cases rx with
  | cls j =>
    dsimp only at q
    by_cases hj : j = n
    · subst hj
      rw [if_pos rfl] at q
      obtain rfl : u = Value.ref (c j) := rv
      refine ClX.getmethcm_ok I1 r cm fun s2 I2 => ?_
      have q' : post (tb X c) (Rep (tb X c)) W Z H1 σ ((δs ρ μ).bind fun ds μ1 => (dNil ρ μ1).bind fun zs μ2 => (if ds.length < 1000 then m [.cls j, .tup ds] μ2 else .bad)) Q := q
      refine args_runP (kws := []) (δk := dNil) (P := PySem.W.MethP X.K s1.heap.objs.size f (.ref (c j))) (first := []) (R := Rep (tb X c)) (PySem.W.keeps_M cm.fi) (fun J => ⟨ClX.pin_at J, J.kIn⟩) hnil hst rfl ha dk_nil I2
        (f := fun ds zs μ2 => if ds.length < 1000 then m [.cls j, .tup ds] μ2 else .bad) (Q := Q) ⟨Z, ρ, μ, gd, sl, q'⟩ fun us ws s3 vs2 zs H2 Z2 ρ2 μ2 ds es' I3 r1 rz gd2 sl2 rd rk q2 => ?_
      by_cases hl : ds.length < 1000
      · rw [if_pos hl] at q2
        have rs : Vals (V.ref (c j) :: vs2) (Value.ref (c j) :: us) := .cons rfl r1
        have run := F.run X.A X.stack s3 H2 (.ref (c j) :: us) (V.ref (c j) :: vs2) Q (WE W σ) Z2 (.cls j :: ds) μ2 hr hG I3.env0 rs gd2 (.cons (.cls j) rd) (by rw [List.length_cons]; omega) (by rw [List.length_cons, sizeLine_eq]; omega) (post_w (by simpa using q2) fun _ _ _ z => z)
        refine thn (Q := EP X ((s1.heap.objs.size, PySem.W.methodObj (.ref f) (.ref (c j))) :: pins) σ Q) (wpAny_call (PySem.W.method_call (ClX.pin_at I3) (codeAny_mono run fun r s' hq => ?_))) fun _ _ y => ClX.unpinE y
        have z := end_of tk (fun _ _ _ q => q) I3 hq
        cases r with
        | error e => exact z
        | ok fl =>
          cases fl with
          | ret u => exact z
          | next => exact False.elim z
          | brk => exact False.elim z
          | cont => exact False.elim z
      · rw [if_neg hl] at q2
        exact False.elim q2
    · rw [if_neg hj] at q
      exact False.elim q
  | _ => exact False.elim q
/-! ### x in y, y an instance with its own __contains__ -/
def inOwnF (n : Nat) (m : Mir) : D → D → Store → Res D := fun x y μ => match insD μ y with
  | some (j, _) => if j = n then (match m [y, x] μ with
    | .ok (.bl b) μ1 => .ok (.bl b) μ1
    | .exc C fs μ1 => .exc C fs μ1
    | _ => .bad) else .bad
  | none => .bad
theorem in_own {M : Model} {A : Around} {E : Value → Shared → Prop} {a C g : Addr} {ox : Obj} {od : Option Obj} {K : PySem.W.Frag} {y : Value} {Q : Value → Shared → Prop} (hK : K.In s.heap) (J : InstAt s.heap a ox C od) (hs : findIn K (.ref C) "__contains__" = some (some (.ref g))) (hf : isFn K (.ref g) = true)
    (h : wpAny M A (call (.ref g) [.ref a, y]) (fun v s' => ∃ b, v = .bool b ∧ Q (.bool b) s') E s) : wpAny M A (compareOp .In y (.ref a)) Q E s := by
  have h1 : wpAny M A (contains (.ref a) y) (fun b s' => Q (.bool b) s') E s := by
    unfold contains
    refine wpAny_holding ?_
    refine wpAny_bind (wpAny_bind (J.type.here ((looks_findIn hK hs).here ?_)))
    rw [if_neg (by simp)]
    refine wpAny_bind ?_
    unfold callSpecialUnlessNone?
    refine wpAny_bind (wpAny_bind (J.type.here ((looks_findIn hK hs).here (wpAny_holding (wpAny_bind ((bind_fn hK _ (beq_iff_eq.mp hf)).here ?_))))))
    dsimp only
    rw [if_neg (by simp)]
    refine wpAny_bind (wpAny_mono h (fun v s' ⟨b, e, q⟩ => wpAny_pure ?_) fun _ _ z => z)
    subst e
    exact wpAny_truthy_bool q
  exact wpAny_bind (wpAny_mono h1 (fun b s' q => wpAny_pure q) fun _ _ z => z)
theorem ow_in (O : OwnOp X c k n 2 "__contains__" m) (hr : Room k X.A) (hG : X.A.guards = some []) (tk : Takes X W) : OpW X c W (compareOp .In) (inOwnF n m) := by
  intro pins s σ H x y u v Z μ dx dy Q I r1 r2 g d1 d2 q
  obtain ⟨f, fd, ps, hs, hf, F, hb, hl⟩ := O.ex
  unfold inOwnF at q
  cases e1 : insD μ dy with
  | none =>
    rw [e1] at q
    exact False.elim q
  | some cf =>
    obtain ⟨j, fs⟩ := cf
    rw [e1] at q
    dsimp only at q
    by_cases hj : j = n
    · subst hj
      rw [if_pos rfl] at q
      obtain ⟨a, dd, vs, rfl, ha, rf⟩ := ins_at g d2 e1
      obtain rfl : v = Value.ref a := r2
      obtain ⟨mA, OM, _, _, _, _⟩ := ins_get I.hok ha
      obtain ⟨od, J, _⟩ := OM.look
      have q2 : post (tb X c) (Rep (tb X c)) W Z H σ (m [dy, dx] μ) (fun w H' => ∃ b, w = .bl b ∧ Q (.bl b) H') := by
        cases em : m [dy, dx] μ with
        | bad =>
          rw [em] at q
          exact False.elim q
        | exc C fs μ1 =>
          rw [em] at q
          exact q
        | ok d μ1 =>
          rw [em] at q
          cases d with
          | bl b =>
            intro Z' H' w l g' r
            cases r
            exact ⟨b, rfl, q Z' H' _ l g' (.bl b)⟩
          | _ => exact False.elim q
      refine in_own I.kIn J hs hf (wpAny_mono (own_run F hb (by rw [hl]; rfl) hr hG tk I (vs := [.ref a, x]) (.cons rfl (.cons r1 .nil)) g (.cons d2 (.cons d1 .nil)) q2) (fun w s' z => ?_) fun _ _ z => z)
      obtain ⟨y', H', I', ry, b, rfl, qb⟩ := z
      exact ⟨b, ry, .bl b, H', I', rfl, qb⟩
    · rw [if_neg hj] at q
      exact False.elim q
/-! ### str(x), x an instance with its own __str__ -/
def rdCW (T : Tab) (F : List D → Store → Res D) : List V → Hp → VK → Prop := fun vs H Q => ∃ Z μ ds, Good T Z H μ ∧ Reps T Z ds vs ∧ post T (Rep T) W0 Z H [] (F ds μ) Q
def dBltW (F : List D → Store → Res D) (δs : DenA) : DenE := fun ρ μ => (δs ρ μ).bind fun xs μ1 => noX (F xs μ1)
theorem rd_bltW {T : Tab} {F : List D → Store → Res D} {Q : VK} (h : rdE T W (dBltW F δs) σ H Q) : tCB (rdCW T F) (rdA T W δs) σ H Q := by
  obtain ⟨Z, ρ, μ, g, s, h1⟩ := rd_then (R := Reps T) (f := fun _ xs μ1 => noX (F xs μ1)) h
  exact ⟨Z, ρ, μ, g, s, post_mono h1 fun xs H1 ⟨Z1, ρ1, dxs, μ1, g1, s1, rx, q1⟩ => ⟨Z1, μ1, dxs, g1, rx, post_noX q1⟩⟩
def strF (n : Nat) (m : Mir) : List D → Store → Res D := fun ds μ => match ds with
  | [x] => match insD μ x with
    | some (j, _) => if j = n then (match m [x] μ with
      | .ok (.str y) μ1 => .ok (.str y) μ1
      | _ => .bad) else .bad
    | none => .bad
  | _ => .bad
theorem cw_str (O : OwnOp X c k n 1 "__str__" m) (hr : Room (k + 2) X.A) (hG : X.A.guards = some []) : CallR X (.type "str") (rdCW (tb X c) (strF n m)) := by
  intro pins s σ H vs us Q I rv h
  obtain ⟨Z, μ, ds, g, rd, q⟩ := h
  obtain ⟨f, fd, ps, hs, hf, F, hb, hl⟩ := O.ex
  unfold strF at q
  split at q
  · rename_i x
    cases e1 : insD μ x with
    | none =>
      rw [e1] at q
      exact False.elim q
    | some cf =>
      obtain ⟨j, fs⟩ := cf
      rw [e1] at q
      dsimp only at q
      by_cases hj : j = n
      · subst hj
        rw [if_pos rfl] at q
        cases rd with
        | cons r1 rd =>
          cases rd
          cases rv with
          | cons u1 rv =>
            cases rv
            obtain ⟨a, dd, ws, rfl, ha, rf⟩ := ins_at g r1 e1
            cases u1
            obtain ⟨mA, OM, _, _, _, _⟩ := ins_get I.hok ha
            obtain ⟨od, J, _⟩ := OM.look
            cases em : m [x] μ with
            | ok d μ1 =>
              rw [em] at q
              cases d with
              | str y =>
                have hp : post (tb X c) (Rep (tb X c)) W0 Z H σ (m [x] μ) (fun w H' => ∃ y, w = .str y ∧ Q (.str y) H') := by
                  rw [em]
                  intro Z' H' w l g' r
                  cases r
                  exact ⟨y, rfl, q Z' H' _ l g' (.str y)⟩
                refine kso_call (by have := hr.un; show X.A.units + 1 + 1 < _; omega) I.kIn J hs hf (wpAny_mono (own_runA (k := k) (A := X.A.in1.in1) F hb (by rw [hl]; rfl) (SubG.in1 (SubG.in1 ⟨hr, rfl, hG⟩)) (fun _ _ z => ?_) I (vs := [.ref a]) (.cons rfl .nil) g (.cons r1 .nil) hp) (fun w s' z => ?_) fun _ _ z => z)
                · obtain ⟨_, _, _, _, _, _, _, _, _, _, _, _, _, _, _, _, w⟩ := z
                  exact w.elim
                · obtain ⟨y', H', I', ry, y2, rfl, qb⟩ := z
                  obtain ⟨t, rfl⟩ := ry
                  exact ⟨.str y2, H', I', ⟨t, rfl⟩, qb⟩
              | _ => exact False.elim q
            | bad =>
              rw [em] at q
              exact False.elim q
            | exc C fs μ1 =>
              rw [em] at q
              exact False.elim q
      · rw [if_neg hj] at q
        exact False.elim q
  · exact False.elim q
theorem de_btyW {id : String} {F : List D → Store → Res D} (ho : CallR X (.type id) (rdCW (tb X c) F)) (hg : Gl X x) (hm : X.mg x = none) (hv : bootBuiltins x = some (.type id)) (hst : (e :: es).all notStar = true) (ha : PA X (e :: es) (rdA (tb X c) W δs))
    (hn : x ≠ "__name__") (hdb : (x == ("__debug__" : Str)) = false) : PE X (.Call (.Name x p) (e :: es) [] pos) (rdE (tb X c) W (dBltW F δs)) := by
  rw [List.all_cons] at hst
  obtain ⟨h1, h2⟩ := Bool.and_eq_true_iff.mp hst
  exact PE.imp (pe_callTy ho hg hm hv ha hn hdb (star_cons h1 es X.env) (star_any h2)) fun _ _ _ h => rd_bltW h
end
end DL

set_option Elab.async false
set_option linter.all false
set_option autoImplicit false
set_option maxRecDepth 100000
/-! DL, part Mh: what the head tells of classes and defs at any address; words for printed derivations with classes. -/
namespace DL
open PySem L2 PySem.Spec PyProof.Rows

/-! ### the hook -/
def tellC (B : W.Frag → Bool) (fn : List He5.DefA) (K : W.Frag) : Bool × List He.FnW := (B K && fn.all (He5.DefA.ok K), fn.map fun d => He5.fnA K (d.at_ K))
def wantC (fn : List He5.DefA) : Bool × List He.FnW := (true, fn.map He5.DefA.val)
def readC (n : Nat) (B : W.Frag → Bool) (fn : List He5.DefA) (g : Addr → Option Obj) : Bool × List He.FnW := tellC B fn (He.frG g (He5.asA g n))
def hookC (n : Nat) (B : W.Frag → Bool) (fn : List He5.DefA) : W.Hook where
  α := Bool × List He.FnW
  obs := fun s => readC n B fn s.heap.get?
  val := fun _ => wantC fn
  says := fun _ h => ∃ K : W.Frag, K.In h ∧ tellC B fn K = wantC fn
  of := fun _ _ e => ⟨_, He.frG_in, e⟩
  keeps := fun _ _ _ ⟨K, hK, c⟩ k => ⟨K, hK.keeps k, c⟩
def obC (n : Nat) (B : W.Frag → Bool) (fn : List He5.DefA) (s : W.SharedT) : Bool × List He.FnW := readC n B fn (HandSHeadRun.getT s)
theorem obC_eq (n : Nat) (B : W.Frag → Bool) (fn : List He5.DefA) (s : W.SharedT) : obC n B fn s = (hookC n B fn).obs s.abs := by
  have e : HandSHeadRun.getT s = s.abs.heap.get? := funext (HandSHeadRun.getT_eq s)
  show readC n B fn (HandSHeadRun.getT s) = readC n B fn s.abs.heap.get?
  rw [e]
section
variable {B : W.Frag → Bool} {fn : List He5.DefA} {K : W.Frag}
theorem told_c (c : tellC B fn K = wantC fn) : B K = true := (Bool.and_eq_true_iff.mp (congrArg Prod.fst c)).1
theorem def_c (c : tellC B fn K = wantC fn) (i : Nat) {d : He5.DefA} (h : fn[i]? = some d) : ∃ fd, FunD K d.name d.qual d.params d.body d.scope (d.dvs K) (d.kws K) (d.at_ K) fd := by
  have c1 := List.all_eq_true.mp (Bool.and_eq_true_iff.mp (congrArg Prod.fst c)).2 d (List.mem_of_getElem? h)
  have e : (fn.map fun d => He5.fnA K (d.at_ K))[i]? = (fn.map He5.DefA.val)[i]? := congrArg (·[i]?) (congrArg Prod.snd c)
  rw [List.getElem?_map, List.getElem?_map, h] at e
  exact He5.DefA.funD (Option.some.inj e) c1
end
/-! ### facts of classes by Bools -/
open PySem.W in
section
variable {K : W.Frag} {C f : Addr} {m : Str}
theorem and2 {a b : Bool} (h : (a && b) = true) : a = true ∧ b = true := Bool.and_eq_true_iff.mp h
def clsFB (K : W.Frag) (C : Addr) : Bool := plainGet K C Str.empty && (hasDictIn K C && (plainOver K C && decide (findIn K (.ref C) "__setattr__" = some (some (.builtin "object.__setattr__")))))
theorem clsFB_of (h : clsFB K C = true) : Cls K C := by
  obtain ⟨h1, h⟩ := and2 h
  obtain ⟨h2, h⟩ := and2 h
  obtain ⟨h3, h4⟩ := and2 h
  exact ⟨h1, h2, h3, of_decide_eq_true h4⟩
def methFB (K : W.Frag) (C : Addr) (m : Str) : Bool := decide (findIn K (.ref C) m = some (some (.ref (He.ma K C m)))) && (isFn K (.ref (He.ma K C m)) && keepIn K (.ref (He.ma K C m)))
theorem methFB_of (h : methFB K C m = true) : Meth K C m (He.ma K C m) := by
  obtain ⟨h1, h⟩ := and2 h
  obtain ⟨h2, h3⟩ := and2 h
  exact ⟨of_decide_eq_true h1, h2, h3⟩
def mkFB (K : W.Frag) (C : Addr) : Bool := makesIn K C && (decide (findIn K (.ref C) "__init__" = some (some (.ref (He.ma K C "__init__")))) && (isFn K (.ref (He.ma K C "__init__")) && keepIn K (.ref C)))
theorem mkFB_of (h : mkFB K C = true) : Mk K C (He.ma K C "__init__") := by
  obtain ⟨h1, h⟩ := and2 h
  obtain ⟨h2, h⟩ := and2 h
  obtain ⟨h3, h4⟩ := and2 h
  exact ⟨h1, of_decide_eq_true h2, h3, h4⟩
def propFB (K : W.Frag) (C : Addr) (m : Str) : Bool := decide (findIn K (.ref C) m = some (some (.ref (He.ma K C m)))) && (decide (specialIn K (.ref (He.ma K C m)) "__get__" = some (some (.builtin "property.__get__"))) && (decide (takesIn K (.ref (He.ma K C m)) = some true) && (match recIn K (He.ma K C m) "property" with
  | some (.ref _ :: _) => true
  | _ => false)))
theorem propFB_of (h : propFB K C m = true) : PropOf K C m (He.ma K C m) (He5.wf K C "property" m) := by
  obtain ⟨h1, h⟩ := and2 h
  obtain ⟨h2, h⟩ := and2 h
  obtain ⟨h3, h4⟩ := and2 h
  refine ⟨of_decide_eq_true h1, of_decide_eq_true h2, of_decide_eq_true h3, ?_⟩
  unfold He5.wf
  split at h4
  · rename_i g r e
    exact ⟨r, by rw [e]⟩
  · cases h4
def creadFB (K : W.Frag) (C : Addr) : Bool := readsIn K C (.type "type") && decide (specialIn K (.ref C) "__getattribute__" = some (some (.builtin "type.__getattribute__")))
theorem creadFB_of (h : creadFB K C = true) : ClX.CRead K C (.type "type") := ⟨(and2 h).1, of_decide_eq_true (and2 h).2⟩
def cmetFB (K : W.Frag) (C : Addr) (m : Str) : Bool := He5.wrapB K C "classmethod" "classmethod.__get__" m && fnIn K (He5.wf K C "classmethod" m)
theorem cmetFB_of (h : cmetFB K C m = true) : ClX.CMet K C (.type "type") m (He.ma K C m) (He5.wf K C "classmethod" m) := He5.cmet_of (and2 h).1 (and2 h).2
def naFB (K : W.Frag) (C : Addr) (m : Str) : Bool := decide (findIn K (.ref C) m = some none)
theorem naFB_of (h : naFB K C m = true) : NoAttr K C m := (of_decide_eq_true h : findIn K (.ref C) m = some none)
/-- the class as a kind -/
def kindFB (K : W.Frag) (C : Addr) : Bool := decide (findIn K (.ref C) "__class__" = some (some (.builtin "object.__class__"))) && decide (mroIn K C (.type "object") = some true)
def kindB (K : W.Frag) (c : Nat → Addr) (ci : List Nat) : Bool := (ci.all fun n => clsFB K (c n) && kindFB K (c n)) && (decide (specialIn K (.builtin "object.__class__") "__get__" = some (some (.builtin "getset_descriptor.__get__"))) && decide (takesIn K (.builtin "object.__class__") = some true))
theorem kindB_of {c : Nat → Addr} {ci : List Nat} (h : kindB K c ci = true) : KindF K c ci [] := by
  obtain ⟨h1, h⟩ := and2 h
  obtain ⟨h2, h3⟩ := and2 h
  rw [List.all_eq_true] at h1
  refine ⟨fun n hn => ?_, fun n hn => by simp at hn, of_decide_eq_true h2, of_decide_eq_true h3⟩
  obtain ⟨a, b⟩ := and2 (h1 n hn)
  obtain ⟨b1, b2⟩ := and2 b
  exact ⟨clsFB_of a, of_decide_eq_true b1, of_decide_eq_true b2⟩
def noRef : Option (Option Value) → Bool
  | some none => true
  | some (some (.ref _)) => true
  | _ => false
def binB (K : W.Frag) (C : Addr) (op : Operator) (Ts : List String) : Bool := selfFirst K C && (noRef (findIn K (.ref C) (dunderR op.info.2)) && Ts.all fun T => (findIn K (.type T) (PySem.dunder op.info.2)).isSome && ((findIn K (.type T) (dunderR op.info.2)).isSome && decide (subIn K (.type T) (.ref C) = some false)))
theorem binB_of {op : Operator} {Ts : List String} (h : binB K C op Ts = true) : BinF K C op Ts := by
  obtain ⟨h1, h⟩ := and2 h
  obtain ⟨h2, h3⟩ := and2 h
  refine ⟨h1, ?_, fun T hT => ?_⟩
  · unfold noRef at h2
    split at h2
    · rename_i e
      exact ⟨_, e, .inl rfl⟩
    · rename_i g e
      exact ⟨_, e, .inr ⟨g, rfl⟩⟩
    · cases h2
  · rw [List.all_eq_true] at h3
    obtain ⟨a, b⟩ := and2 (h3 T hT)
    obtain ⟨b1, b2⟩ := and2 b
    exact ⟨Option.isSome_iff_exists.mp a, Option.isSome_iff_exists.mp b1, of_decide_eq_true b2⟩
def nfB (K : W.Frag) (c : Nat → Addr) (n : Nat) (kds : List Kd) : Bool := kds.all fun kd => notFirst K (c n) (kv c kd)
theorem nfB_of {c : Nat → Addr} {n : Nat} {kds : List Kd} (h : nfB K c n kds = true) : ∀ kd, hasK kds kd = true → notFirst K (c n) (kv c kd) = true := fun kd hk => by
  unfold hasK at hk
  rw [List.any_eq_true] at hk
  obtain ⟨z, hz, e⟩ := hk
  have e' : z = kd := of_decide_eq_true e
  subst e'
  exact List.all_eq_true.mp h z hz
def neB (K : W.Frag) (C : Addr) : Bool := decide (findIn K (.ref C) "__ne__" = some (some (.builtin "object.__ne__"))) && decide (mroIn K C (.type "object") = some true)
end
/-! ### words -/
section
variable {X : Cx} {c : Nat → Addr} {W : WX} {k k' : Nat} {N : List Str} {sc : Scope} {U L : List Nat} {G : List Str} {pos p apos : Pos} {x nm qual : Str} {st : Stmt} {dvs : List V} {f : Addr} {ps : List Str} {m : Mir} {np n : Nat} {g : List D → List D → List D} {es : List Expr} {kws : List Keyword} {δs δk : DenA} {δ δo : DenE} {e o : Expr}
/-- a call of an own def, by place -/
theorem e_dp (C : Ct X W k N sc) (S : Sc N sc U L G) (j : Nat) (F : Df X.prog X.w X.K X.mg X.base c k' x x st [] f ps m) (hm : X.mg x = some (.ref f)) (ha : PA X es (rdA (tb X c) W δs)) (hk : k' ≤ k := by decide) (hj : G[j]? = some x := by rfl)
    (hst : es.all notStar = true := by rfl) (hnil : es = [] → δs = dNil := by first | (intro _; rfl) | (intro z; cases z)) : PE X (.Call (.Name x p) es [] pos) (rdE (tb X c) W (dCallK ps.length 0 gP m δs dNil)) := by
  obtain ⟨a, b, d⟩ := C.gl S hj
  obtain ⟨fd, h1, h2, h3⟩ := F.ex
  exact de_call (kws := []) h2 (C.room.mono hk) C.grd C.tk a hm h1.kp (kb_pos (T := tb X c) (h3 rfl)) b hnil hst rfl ha dk_nil
/-- .., by names too -/
theorem e_dk (C : Ct X W k N sc) (S : Sc N sc U L G) (j : Nat) (F : Df X.prog X.w X.K X.mg X.base c k' x x st dvs f ps m) (hm : X.mg x = some (.ref f)) (kb : ∀ fd, FunD X.K x x (defArgs st) (defBody st) (defScope st) dvs [] f fd → KB (tb X c) fd ps (kwNames kws) np g) (ha : PA X es (rdA (tb X c) W δs)) (hkw : PK X kws (rdA (tb X c) W δk))
    (hk : k' ≤ k := by decide) (hj : G[j]? = some x := by rfl) (hst : es.all notStar = true := by rfl) (hkn : kws.all (·.arg.isSome) = true := by rfl) (hnil : es = [] → δs = dNil := by first | (intro _; rfl) | (intro z; cases z)) :
    PE X (.Call (.Name x p) es kws pos) (rdE (tb X c) W (dCallK np (kwNames kws).length g m δs δk)) := by
  obtain ⟨a, b, d⟩ := C.gl S hj
  obtain ⟨fd, h1, h2, _⟩ := F.ex
  exact de_call h2 (C.room.mono hk) C.grd C.tk a hm h1.kp (kb fd h1) b hnil hst hkn ha hkw
/-- C(..) -/
theorem e_mk (C : Ct X W k N sc) (S : Sc N sc U L G) (j : Nat) (M : Mk X.K (c n) f) (F : Df X.prog X.w X.K X.mg X.base c k' nm qual st dvs f ps m) (hm : X.mg x = some (.ref (c n))) (kb : ∀ fd, FunD X.K nm qual (defArgs st) (defBody st) (defScope st) dvs [] f fd → KB (tb X c) fd ps (kwNames kws) (np + 1) g)
    (ha : PA X es (rdA (tb X c) W δs)) (hkw : PK X kws (rdA (tb X c) W δk)) (hk : k' + 1 ≤ k := by decide) (hj : G[j]? = some x := by rfl) (hst : es.all notStar = true := by rfl) (hkn : kws.all (·.arg.isSome) = true := by rfl) (hnil : es = [] → δs = dNil := by first | (intro _; rfl) | (intro z; cases z)) :
    PE X (.Call (.Name x p) es kws pos) (rdE (tb X c) W (dMake n np (kwNames kws).length g m δs δk)) := by
  obtain ⟨a, b, d⟩ := C.gl S hj
  obtain ⟨fd, h1, h2, _⟩ := F.ex
  exact de_make M h2 (C.room.mono hk) C.grd C.tk a hm (kb fd h1) b hnil hst hkn ha hkw
/-- o.m(..) -/
theorem e_me {pl : Sem Bool} (C : Ct X W k N sc) (n : Nat) (CL : Cls X.K (c n)) (M : Meth X.K (c n) nm f) (F : Df X.prog X.w X.K X.mg X.base c k' nm qual st dvs f ps m) (kb : ∀ fd, FunD X.K nm qual (defArgs st) (defBody st) (defScope st) dvs [] f fd → KB (tb X c) fd ps (kwNames kws) (np + 1) g)
    (ho : PE X o (rdE (tb X c) W δo)) (ha : PA X es (rdA (tb X c) W δs)) (hkw : PK X kws (rdA (tb X c) W δk))
    (ht : eval (.Call (.Attribute o nm apos) es kws pos) X.env = (do
      let ov ← eval o X.env
      standAt apos.atName
      let (f, first) ← holding [ov] (getMethod ov nm pl)
      callWith pos f first (backTo pos (starEach es X.env)) (backToKw pos (keywordEach kws X.env))) := by rfl)
    (hk : k' ≤ k := by decide) (hst : es.all notStar = true := by rfl) (hkn : kws.all (·.arg.isSome) = true := by rfl) (hnil : es = [] → δs = dNil := by first | (intro _; rfl) | (intro z; cases z)) :
    PE X (.Call (.Attribute o nm apos) es kws pos) (rdE (tb X c) W (dMeth nm np (kwNames kws).length g [(n, m)] δo δs δk)) := by
  refine de_meth (k := k') (fun j mm e => ?_) (C.room.mono hk) C.grd C.tk hnil hst hkn ho ha hkw ht
  have e' : (match j == n with | true => some m | false => none) = some mm := e
  cases q : j == n with
  | false => rw [q] at e'; cases e'
  | true =>
    rw [q] at e'
    cases e'
    obtain rfl := beq_iff_eq.mp q
    obtain ⟨fd, h1, h2, _⟩ := F.ex
    exact ⟨f, fd, ps, CL, M, h2, kb fd h1⟩
/-- properties -/
theorem pt_one {q : Addr} (CL : Cls X.K (c n)) (PO : PropOf X.K (c n) nm q f) (F : Df X.prog X.w X.K X.mg X.base c k' nm qual st [] f ["self"] m) : PropT X c k' nm [(n, m)] := fun j mm e => by
  have e' : (match j == n with | true => some m | false => none) = some mm := e
  cases z : j == n with
  | false => rw [z] at e'; cases e'
  | true =>
    rw [z] at e'
    cases e'
    obtain rfl := beq_iff_eq.mp z
    obtain ⟨fd, h1, h2, h3⟩ := F.ex
    exact ⟨q, f, fd, CL, PO, h2, h3 rfl⟩
theorem pt_two {n1 n2 k1 k2 : Nat} {m1 m2 : Mir} (h1 : PropT X c k1 nm [(n1, m1)]) (h2 : PropT X c k2 nm [(n2, m2)]) (e1 : k1 ≤ k') (e2 : k2 ≤ k') : PropT X c k' nm [(n1, m1), (n2, m2)] := fun j mm e => by
  have e' : (match j == n1 with | true => some m1 | false => ([(n2, m2)] : List (Nat × Mir)).lookup j) = some mm := e
  cases z : j == n1 with
  | true =>
    rw [z] at e'
    obtain ⟨q, f, fd, a, b, d, g⟩ := h1 j mm (by rw [List.lookup_cons, z]; exact e')
    exact ⟨q, f, fd, a, b, d.mono e1, g⟩
  | false =>
    rw [z] at e'
    obtain ⟨q, f, fd, a, b, d, g⟩ := h2 j mm e'
    exact ⟨q, f, fd, a, b, d.mono e2, g⟩
theorem e_pr {ms : List (Nat × Mir)} (C : Ct X W k N sc) (M : PropT X c k' nm ms) (h : PE X e (rdE (tb X c) W δ)) (hk : k' + 1 ≤ k := by decide) (hab : attributeBase e nm X.env (eval e X.env) = eval e X.env := by rfl) : PE X (.Attribute e nm pos) (rdE (tb X c) W (dProp ms δ)) := de_prop M (C.room.mono hk) C.grd hab h
/-- fields -/
theorem e_fl {cs : List Nat} (M : FldF X.K c cs nm) (h : PE X e (rdE (tb X c) W δ)) (hab : attributeBase e nm X.env (eval e X.env) = eval e X.env := by rfl) : PE X (.Attribute e nm pos) (rdE (tb X c) W (dFld cs nm δ)) := de_fld M hab h
theorem s_fl {cs : List Nat} (M : FldF X.K c cs nm) (ho : PE X o (rdE (tb X c) W δo)) (he : PE X e (rdE (tb X c) W δ)) (hn : notComp e = true := by rfl) : PS X (.Assign [.Attribute o nm apos] e pos) (rdS (tb X c) W (sFldD cs nm δo δ)) := ds_fld M hn ho he
/-- C.m(..), a classmethod -/
theorem e_cm {pl : Sem Bool} {mc : Value} {q : Addr} (C : Ct X W k N sc) (n : Nat) (R : ClX.CRead X.K (c n) mc) (M : ClX.CMet X.K (c n) mc nm q f) (F : Df X.prog X.w X.K X.mg X.base c k' nm qual st dvs f ps m) (kb : ∀ fd, FunD X.K nm qual (defArgs st) (defBody st) (defScope st) dvs [] f fd → KB (tb X c) fd ps (kwNames kws) (np + 1) g)
    (ho : PE X o (rdE (tb X c) W δo)) (ha : PA X es (rdA (tb X c) W δs)) (hkw : PK X kws (rdA (tb X c) W δk))
    (ht : eval (.Call (.Attribute o nm apos) es kws pos) X.env = (do
      let ov ← eval o X.env
      standAt apos.atName
      let (f, first) ← holding [ov] (getMethod ov nm pl)
      callWith pos f first (backTo pos (starEach es X.env)) (backToKw pos (keywordEach kws X.env))) := by rfl)
    (hk : k' ≤ k := by decide) (hst : es.all notStar = true := by rfl) (hkn : kws.all (·.arg.isSome) = true := by rfl) (hnil : es = [] → δs = dNil := by first | (intro _; rfl) | (intro z; cases z)) :
    PE X (.Call (.Attribute o nm apos) es kws pos) (rdE (tb X c) W (dCMeth n np (kwNames kws).length g m δo δs δk)) := by
  obtain ⟨fd, h1, h2, _⟩ := F.ex
  exact de_cmeth R M h2 (C.room.mono hk) C.grd C.tk (kb fd h1) hnil hst hkn ho ha hkw ht
/-- .. with *args -/
theorem e_cs {pl : Sem Bool} {mc : Value} {q : Addr} (C : Ct X W k N sc) (n : Nat) (R : ClX.CRead X.K (c n) mc) (M : ClX.CMet X.K (c n) mc nm q f) (F : GsOk X.prog X.w X.K X.mg X.base c k' f 1 m) (ho : PE X o (rdE (tb X c) W δo)) (ha : PA X es (rdA (tb X c) W δs))
    (ht : eval (.Call (.Attribute o nm apos) es [] pos) X.env = (do
      let ov ← eval o X.env
      standAt apos.atName
      let (f, first) ← holding [ov] (getMethod ov nm pl)
      callWith pos f first (backTo pos (starEach es X.env)) (backToKw pos (keywordEach [] X.env))) := by rfl)
    (hk : k' ≤ k := by decide) (hst : es.all notStar = true := by rfl) (hnil : es = [] → δs = dNil := by first | (intro _; rfl) | (intro z; cases z)) : PE X (.Call (.Attribute o nm apos) es [] pos) (rdE (tb X c) W (dCMethS n m δo δs)) := de_cmethS R M F (C.room.mono hk) C.grd C.tk hnil hst ho ha ht
/-- own operators -/
theorem own_of (CL : Cls X.K (c n)) (M : Meth X.K (c n) nm f) (F : Df X.prog X.w X.K X.mg X.base c k' nm qual st [] f ps m) (hl : ps.length = np) : OwnOp X c k' n np nm m := by
  obtain ⟨fd, h1, h2, h3⟩ := F.ex
  exact ⟨CL, f, fd, ps, M.at_, M.fn, h2, h3 rfl, hl⟩
theorem e_strO (C : Ct X W k N sc) (S : Sc N sc U L G) (j : Nat) (O : OwnOp X c k' n 1 "__str__" m) (hm : X.mg "str" = none) (ha : PA X [e] (rdA (tb X c) W δs)) (hk : k' + 2 ≤ k := by decide) (hj : G[j]? = some ("str" : Str) := by rfl) (hst : [e].all notStar = true := by rfl) :
    PE X (.Call (.Name "str" p) [e] [] pos) (rdE (tb X c) W (dBltW (strF n m) δs)) := by
  obtain ⟨a, b, d⟩ := C.gl S hj
  exact de_btyW (cw_str O (C.room.mono hk) C.grd) a hm bt_str hst ha d b
theorem e_gi (C : Ct X W k N sc) (S : Sc N sc U L G) (j : Nat) {i : Int} {tk : Tok} (hm : X.mg x = some (.int i tk)) (hj : G[j]? = some x := by rfl) : PE X (.Name x pos) (rdE (tb X c) W (dC (.int i))) := by
  obtain ⟨a, b, d⟩ := C.gl S hj
  exact de_gint a hm b
theorem s_while (C : Cd X W k N sc) (fuel : Env → Store → Nat) {t : Expr} {body : List Stmt} {τ : DenT} {ds : DenS} (ht : PT X t (rdT (tb X c) W τ)) (hb : PSs X body (rdS (tb X c) W ds)) : PS X (.While t body [] pos) (rdS (tb X c) W (sWhile fuel τ ds)) := ds_while fuel C.po ht hb
theorem s_aug (C : Cd X W k N sc) (S : Sc N sc U L G) (i : Nat) {pos' : Pos} (h : PE X e (rdE (tb X c) W δ)) (hi : i ∈ L := by decide) (hx : N[i]? = some x := by rfl) : PS X (.AugAssign (.Name x pos') .Add e pos) (rdS (tb X c) W (sAugA i δ)) := by
  obtain ⟨a, b, d⟩ := C.lc S hi hx
  exact ds_augA (by rw [C.hN]; exact C.nd) a b d h
/-- cls(..), cls a local name -/
theorem e_mkL (C : Ct X W k N sc) (S : Sc N sc U L G) (i : Nat) (M : Mk X.K (c n) f) (F : Df X.prog X.w X.K X.mg X.base c k' nm qual st dvs f ps m) (kb : ∀ fd, FunD X.K nm qual (defArgs st) (defBody st) (defScope st) dvs [] f fd → KB (tb X c) fd ps (kwNames kws) (np + 1) g)
    (ha : PA X es (rdA (tb X c) W δs)) (hkw : PK X kws (rdA (tb X c) W δk)) (hk : k' + 1 ≤ k := by decide) (hi : i ∈ U := by decide) (hx : N[i]? = some x := by rfl) (hst : es.all notStar = true := by rfl) (hkn : kws.all (·.arg.isSome) = true := by rfl) (hnil : es = [] → δs = dNil := by first | (intro _; rfl) | (intro z; cases z)) :
    PE X (.Call (.Name x p) es kws pos) (rdE (tb X c) W (dMakeL i n np (kwNames kws).length g m δs δk)) := by
  obtain ⟨a, b, d⟩ := S.vis i hi x hx
  obtain ⟨fd, h1, h2, _⟩ := F.ex
  exact de_makeL M h2 (C.room.mono hk) C.grd C.tk (by rw [C.hN]; exact hx) (by rw [C.hs]; exact a) (kb fd h1) b d hnil hst hkn ha hkw
/-- targets = a comprehension -/
theorem ds_asgT {tg : Expr} {γ : DenG} (hs : swapsWithSole [tg] e pos.line X.env = pure false) (hw : swappedStores [tg] e X.env = pure none) (h1 : (assignEach [tg] X.env).map (·.2) = [assign tg X.env]) (h : PE X e (rdE (tb X c) W δ)) (hg : PG X tg (rdTg (tb X c) γ)) : PS X (.Assign [tg] e pos) (rdS (tb X c) W (sAsg δ γ)) := by
  refine PS.imp (ps_asg h hg hs hw h1) fun E σ H ⟨Z, ρ, μ, g, s, q⟩ => ?_
  refine ⟨Z, ρ, μ, g, s, post_mono (post_bindS (R := Rep (tb X c)) s q) fun v H1 ⟨Z1, d, μ1, l, g1, s1, r, q1⟩ => ?_⟩
  exact ⟨Z1, ρ, μ1, d, g1, s1, r, post_no q1⟩
theorem w_cmp {op : CmpOp} {F : D → D → Store → Res D} (h : OpW X c W (richCompare op) F) (ho : op = .Eq ∨ op = .NotEq) : OpW X c W (compareOp op) F := by
  rcases ho with rfl | rfl <;> exact h
end
end DL

set_option Elab.async false
set_option linter.all false
set_option autoImplicit false
set_option maxRecDepth 100000
/-! DL, part Mi: what a text makes of data that does not change: rules without stores. -/
namespace DL
open PySem L2

def nn (k : Nat) : Store := List.replicate k none
theorem nn_nn (μ : Store) (a b : Nat) : (μ ++ nn a) ++ nn b = μ ++ nn (a + b) := by
  unfold nn
  rw [List.append_assoc, List.replicate_append_replicate]
def RO {α : Type} (r : Store → Res α) (a : α) : Prop := ∀ μ, ∃ k, r μ = .ok a (μ ++ nn k)
def GE (δ : DenE) (ρ : Env) (d : D) : Prop := RO (δ ρ) d
def GA (δ : DenA) (ρ : Env) (d : List D) : Prop := RO (δ ρ) d
def GT (δ : DenT) (ρ : Env) (b : Bool) : Prop := RO (δ ρ) b
def MG (m : Mir) (ds : List D) (d : D) : Prop := RO (m ds) d
def FG (F : D → D → Store → Res D) (x y d : D) : Prop := RO (F x y) d
def F1 (F : D → Store → Res D) (x d : D) : Prop := RO (F x) d
def SN (s : DenS) (ρ ρ' : Env) : Prop := ∀ μ, ∃ k, s ρ μ = .nx ρ' (μ ++ nn k)
def SR (s : DenS) (ρ : Env) (d : D) : Prop := ∀ μ, ∃ k, s ρ μ = .rt d (μ ++ nn k)
/-- an __init__: of the new thing at n it makes the fields fs -/
def MI (m : Mir) (c : Nat) (f : D → List D) (fs : List (Str × D)) : Prop := ∀ (μ : Store) (n : Nat), μ[n]? = some (some (.ins c [])) → ∃ k, m (f (.loc n)) μ = .ok .non (μ.set n (some (.ins c fs)) ++ nn k)
theorem RO.pure {α : Type} {r : Store → Res α} {a : α} (h : ∀ μ, r μ = .ok a μ) : RO r a := fun μ => ⟨0, by rw [h]; simp [nn]⟩
theorem RO.bind {α β : Type} {r : Store → Res α} {f : α → Store → Res β} {a : α} {b : β} (h : RO r a) (h2 : RO (f a) b) : RO (fun μ => (r μ).bind f) b := fun μ => by
  obtain ⟨k, e⟩ := h μ
  obtain ⟨l, e2⟩ := h2 (μ ++ nn k)
  exact ⟨k + l, by show (r μ).bind f = _; rw [e]; show f a (μ ++ nn k) = _; rw [e2, nn_nn]⟩
section
variable {ρ ρ1 ρ2 : Env} {x y z d : D} {xs ds zs : List D} {δ δa δb δo : DenE} {δs δk : DenA} {t ta tb : DenT} {b b' : Bool} {o : Op2} {on : OpN} {m : Mir} {sa sb : DenS} {F : D → D → Store → Res D} {U : D → Store → Res D}
theorem GE.var {i : Nat} (h : ρ[i]? = some (some d)) : GE (dVar i) ρ d := RO.pure fun μ => ev_var h
theorem GE.c : GE (dC d) ρ d := RO.pure fun μ => rfl
theorem GE.bin (h1 : GE δa ρ x) (h2 : GE δb ρ y) (h3 : ∀ μ, o x y μ = some d) : GE (dBin o δa δb) ρ d := RO.bind h1 (RO.bind h2 (RO.pure fun μ => by show ofO (o x y μ) μ = _; rw [h3]; rfl))
theorem GE.two (h1 : GE δa ρ x) (h2 : GE δb ρ y) (h3 : FG F x y d) : GE (dTwo F δa δb) ρ d := RO.bind h1 (RO.bind h2 h3)
theorem GE.one (h1 : GE δa ρ x) (h3 : F1 U x d) : GE (dOne U δa) ρ d := RO.bind h1 h3
theorem GE.un {u : D → Option D} (h1 : GE δ ρ x) (h3 : u x = some d) : GE (dUn u δ) ρ d := RO.bind h1 (RO.pure fun μ => by show ofO (u x) μ = _; rw [h3]; rfl)
theorem GA.nil : GA dNil ρ [] := RO.pure fun μ => rfl
theorem GA.cons (h1 : GE δ ρ x) (h2 : GA δs ρ xs) : GA (dCons δ δs) ρ (x :: xs) := RO.bind h1 (RO.bind h2 (RO.pure fun μ => rfl))
theorem GE.blt (h1 : GA δs ρ xs) (h3 : ∀ μ, on xs μ = some d) : GE (dBlt on δs) ρ d := RO.bind h1 (RO.pure fun μ => by show ofO (on xs μ) μ = _; rw [h3]; rfl)
theorem GE.lst (h1 : GA δs ρ xs) (h2 : xs.length ≤ sizeLine) : GE (dLst δs) ρ (.lst xs) := RO.bind h1 (RO.pure fun μ => by show kLst xs μ = _; rw [kLst, if_pos h2])
theorem GE.tup (h1 : GA δs ρ xs) (h2 : xs.length ≤ sizeLine) : GE (dTup δs) ρ (.tup xs) := RO.bind h1 (RO.pure fun μ => by show kTup xs μ = _; rw [kTup, if_pos h2])
theorem GE.call {np nk : Nat} {g : List D → List D → List D} (h1 : GA δs ρ ds) (h2 : GA δk ρ zs) (h3 : ds.length = np) (h4 : zs.length = nk) (h5 : MG m (g ds zs) d) : GE (dCallK np nk g m δs δk) ρ d := RO.bind h1 (RO.bind h2 fun μ => by
  obtain ⟨k, e⟩ := h5 μ
  exact ⟨k, by show (if ds.length = np ∧ zs.length = nk then m (g ds zs) μ else .bad) = _; rw [if_pos ⟨h3, h4⟩, e]⟩)
theorem frz_ok {c : Nat} {f : D → List D} {fs : List (Str × D)} (h : MI m c f fs) (μ : Store) : ∃ k, frz c μ.length (m (f (.loc μ.length)) (μ ++ [some (.ins c [])])) = .ok (.ins c fs) (μ ++ nn k) := by
  obtain ⟨k, e⟩ := h (μ ++ [some (.ins c [])]) μ.length (by simp)
  refine ⟨1 + k, ?_⟩
  rw [e]
  have e1 : (μ ++ [some (MO.ins c [])]).set μ.length (some (.ins c fs)) = μ ++ [some (.ins c fs)] := by simp
  rw [e1]
  have e2 : ((μ ++ [some (MO.ins c fs)]) ++ nn k)[μ.length]? = some (some (.ins c fs)) := by simp
  simp only [frz]
  rw [e2]
  simp only [if_true]
  rw [← nn_nn]
  congr 1
  rw [List.set_append_left _ _ (by simp), List.set_append_right _ _ (Nat.le_refl _), Nat.sub_self]
  rfl
theorem GE.make {c np nk : Nat} {g : List D → List D → List D} {fs : List (Str × D)} (h1 : GA δs ρ ds) (h2 : GA δk ρ zs) (h3 : ds.length = np) (h4 : zs.length = nk) (h5 : MI m c (fun s => g (s :: ds) zs) fs) : GE (dMake c np nk g m δs δk) ρ (.ins c fs) := RO.bind h1 (RO.bind h2 fun μ => by
  obtain ⟨k, e⟩ := frz_ok h5 μ
  refine ⟨k, ?_⟩
  show (if ds.length = np ∧ zs.length = nk then frz c μ.length (m (g (.loc μ.length :: ds) zs) (μ ++ [some (.ins c [])])) else .bad) = _
  rw [if_pos ⟨h3, h4⟩]
  exact e)
theorem GE.makeL {i c np nk : Nat} {g : List D → List D → List D} {fs : List (Str × D)} (h0 : ρ[i]? = some (some (.cls c))) (h1 : GA δs ρ ds) (h2 : GA δk ρ zs) (h3 : ds.length = np) (h4 : zs.length = nk) (h5 : MI m c (fun s => g (s :: ds) zs) fs) : GE (dMakeL i c np nk g m δs δk) ρ (.ins c fs) := fun μ => by
  obtain ⟨k, e⟩ := GE.make h1 h2 h3 h4 h5 μ
  exact ⟨k, by unfold dMakeL; rw [h0]; simp only [if_true]; exact e⟩
theorem GE.meth {nm : Str} {c np nk : Nat} {g : List D → List D → List D} {fs : List (Str × D)} (h0 : GE δo ρ (.ins c fs)) (h1 : GA δs ρ ds) (h2 : GA δk ρ zs) (h3 : ds.length = np) (h4 : zs.length = nk) (hf : fs.lookup nm = none) (h5 : MG m (g (.ins c fs :: ds) zs) d) : GE (dMeth nm np nk g [(c, m)] δo δs δk) ρ d := by
  refine RO.bind h0 fun μ => ?_
  have e : recv nm [(c, m)] μ (.ins c fs) = some m := by simp [recv, insD, hf]
  obtain ⟨k, e2⟩ := RO.bind h1 (RO.bind h2 (f := fun zs μ2 => if ds.length = np ∧ zs.length = nk then m (g (.ins c fs :: ds) zs) μ2 else .bad) (b := d) fun μ => by
    obtain ⟨k, e⟩ := h5 μ
    exact ⟨k, by dsimp only; rw [if_pos ⟨h3, h4⟩, e]⟩) (f := fun ds μ1 => (δk ρ μ1).bind fun zs μ2 => if ds.length = np ∧ zs.length = nk then m (g (.ins c fs :: ds) zs) μ2 else .bad) μ
  refine ⟨k, ?_⟩
  show (match recv nm [(c, m)] μ (.ins c fs) with | some m => (δs ρ μ).bind fun ds μ1 => (δk ρ μ1).bind fun zs μ2 => if ds.length = np ∧ zs.length = nk then m (g (.ins c fs :: ds) zs) μ2 else .bad | none => .bad) = _
  rw [e]
  exact e2
theorem GE.fld {cs : List Nat} {f : Str} {c : Nat} {fs : List (Str × D)} (h0 : GE δ ρ (.ins c fs)) (h1 : c ∈ cs) (h2 : fs.lookup f = some d) : GE (dFld cs f δ) ρ d := RO.bind h0 (RO.pure fun μ => by
  show ofO (fldD cs f (.ins c fs) μ) μ = _
  simp only [fldD, insD, if_pos h1, h2]
  rfl)
theorem GE.prop {ms : List (Nat × Mir)} {c : Nat} {fs : List (Str × D)} (h0 : GE δ ρ (.ins c fs)) (h1 : ms.lookup c = some m) (h2 : MG m [.ins c fs] d) : GE (dProp ms δ) ρ d := RO.bind h0 fun μ => by
  obtain ⟨k, e⟩ := h2 μ
  refine ⟨k, ?_⟩
  show (match (insD μ (.ins c fs)).bind fun q => ms.lookup q.1 with | some m => noX (m [.ins c fs] μ) | none => .bad) = _
  simp only [insD, Option.bind_some, h1, e, noX]
theorem GE.cmeth {n np nk : Nat} {g : List D → List D → List D} (h0 : GE δo ρ (.cls n)) (h1 : GA δs ρ ds) (h2 : GA δk ρ zs) (h3 : ds.length = np) (h4 : zs.length = nk) (h5 : MG m (g (.cls n :: ds) zs) d) : GE (dCMeth n np nk g m δo δs δk) ρ d := RO.bind h0 fun μ => by
  obtain ⟨k, e2⟩ := RO.bind h1 (RO.bind h2 (f := fun zs μ2 => if ds.length = np ∧ zs.length = nk then m (g (.cls n :: ds) zs) μ2 else .bad) (b := d) fun μ => by
    obtain ⟨k, e⟩ := h5 μ
    exact ⟨k, by dsimp only; rw [if_pos ⟨h3, h4⟩, e]⟩) (f := fun ds μ1 => (δk ρ μ1).bind fun zs μ2 => if ds.length = np ∧ zs.length = nk then m (g (.cls n :: ds) zs) μ2 else .bad) μ
  refine ⟨k, ?_⟩
  show (if n = n then _ else _) = _
  rw [if_pos rfl]
  exact e2
theorem GE.cmethS {n : Nat} (h0 : GE δo ρ (.cls n)) (h1 : GA δs ρ ds) (h3 : ds.length < 1000) (h5 : MG m [.cls n, .tup ds] d) : GE (dCMethS n m δo δs) ρ d := RO.bind h0 fun μ => by
  obtain ⟨k, e2⟩ := RO.bind h1 (f := fun (ds : List D) μ1 => if ds.length < 1000 then m [.cls n, .tup ds] μ1 else .bad) (b := d) (fun μ => by
    obtain ⟨k, e⟩ := h5 μ
    exact ⟨k, by dsimp only; rw [if_pos h3, e]⟩) μ
  refine ⟨k, ?_⟩
  show (if n = n then _ else _) = _
  rw [if_pos rfl]
  exact e2
theorem GE.ifT (h1 : GT t ρ true) (h2 : GE δa ρ d) : GE (dIf t δa δb) ρ d := RO.bind h1 h2
theorem GE.ifF (h1 : GT t ρ false) (h2 : GE δb ρ d) : GE (dIf t δa δb) ρ d := RO.bind h1 h2
theorem GE.andT (h1 : GE δa ρ (.bl true)) (h2 : GE δb ρ d) : GE (dAndV δa δb) ρ d := RO.bind h1 h2
theorem GE.andF (h1 : GE δa ρ (.bl false)) : GE (dAndV δa δb) ρ (.bl false) := RO.bind h1 (RO.pure fun μ => rfl)
theorem GE.orF (h1 : GE δa ρ (.bl false)) (h2 : GE δb ρ d) : GE (dOrV δa δb) ρ d := RO.bind h1 h2
theorem GE.orT (h1 : GE δa ρ (.bl true)) : GE (dOrV δa δb) ρ (.bl true) := RO.bind h1 (RO.pure fun μ => rfl)
theorem GE.not (h1 : GE δ ρ (.bl b)) : GE (dNotV δ) ρ (.bl (!b)) := RO.bind h1 (RO.pure fun μ => rfl)
/-- and, or of two bools that are known -/
theorem GE.andB (h1 : GE δa ρ (.bl b)) (h2 : GE δb ρ (.bl b')) : GE (dAndV δa δb) ρ (.bl (b && b')) := by
  cases b
  · exact GE.andF h1
  · exact GE.andT h1 h2
theorem GE.orB (h1 : GE δa ρ (.bl b)) (h2 : GE δb ρ (.bl b')) : GE (dOrV δa δb) ρ (.bl (b || b')) := by
  cases b
  · exact GE.orF h1 h2
  · exact GE.orT h1
theorem GT.isB (h : GE δ ρ (.bl b)) : GT (dIsB δ) ρ b := RO.bind h (RO.pure fun μ => rfl)
theorem GT.tru (h : GE δ ρ (.bl b)) : GT (dTru δ) ρ b := RO.bind h (RO.pure fun μ => rfl)
theorem GT.not (h : GT t ρ b) : GT (dNotT t) ρ (!b) := RO.bind h (RO.pure fun μ => rfl)
theorem GT.notF (h : GT t ρ false) : GT (dNotT t) ρ true := GT.not h
theorem GT.notT (h : GT t ρ true) : GT (dNotT t) ρ false := GT.not h
theorem GE.notF (h : GE δ ρ (.bl false)) : GE (dNotV δ) ρ (.bl true) := GE.not h
theorem GE.notT (h : GE δ ρ (.bl true)) : GE (dNotV δ) ρ (.bl false) := GE.not h
theorem GT.orF (h : GT ta ρ false) (h2 : GT tb ρ b) : GT (dOrT ta tb) ρ b := RO.bind h h2
theorem GT.orT (h : GT ta ρ true) : GT (dOrT ta tb) ρ true := RO.bind h (RO.pure fun μ => rfl)
theorem GT.andT (h : GT ta ρ true) (h2 : GT tb ρ b) : GT (dAndT ta tb) ρ b := RO.bind h h2
theorem GT.andF (h : GT ta ρ false) : GT (dAndT ta tb) ρ false := RO.bind h (RO.pure fun μ => rfl)
theorem GT.ifT (h1 : GT t ρ true) (h2 : GT ta ρ b) : GT (dIfT t ta tb) ρ b := RO.bind h1 h2
theorem GT.ifF (h1 : GT t ρ false) (h2 : GT tb ρ b) : GT (dIfT t ta tb) ρ b := RO.bind h1 h2
theorem RO.eq {α : Type} {r : Store → Res α} {a a' : α} (h : RO r a) (e : a = a') : RO r a' := e ▸ h
theorem GE.eq (h : GE δ ρ d) (e : d = x) : GE δ ρ x := e ▸ h
theorem GT.eq (h : GT t ρ b) (e : b = b') : GT t ρ b' := e ▸ h
theorem MG.eq (h : MG m ds d) (e : d = x) : MG m ds x := e ▸ h
theorem GT.orB (h : GT ta ρ b) (h2 : GT tb ρ b') : GT (dOrT ta tb) ρ (b || b') := by
  cases b
  · exact GT.orF h h2
  · exact GT.orT h
theorem GT.andB (h : GT ta ρ b) (h2 : GT tb ρ b') : GT (dAndT ta tb) ρ (b && b') := by
  cases b
  · exact GT.andF h
  · exact GT.andT h h2
/-! statements -/
theorem SN.bindS {α : Type} {r : Store → Res α} {f : α → Store → Out} {a : α} (h : RO r a) (h2 : ∀ μ, ∃ k, f a μ = .nx ρ1 (μ ++ nn k)) : ∀ μ, ∃ k, DL.bindS (r μ) ρ f = .nx ρ1 (μ ++ nn k) := fun μ => by
  obtain ⟨k, e⟩ := h μ
  obtain ⟨l, e2⟩ := h2 (μ ++ nn k)
  exact ⟨k + l, by rw [e]; show f a _ = _; rw [e2, nn_nn]⟩
theorem SR.bindS {α : Type} {r : Store → Res α} {f : α → Store → Out} {a : α} (h : RO r a) (h2 : ∀ μ, ∃ k, f a μ = .rt d (μ ++ nn k)) : ∀ μ, ∃ k, DL.bindS (r μ) ρ f = .rt d (μ ++ nn k) := fun μ => by
  obtain ⟨k, e⟩ := h μ
  obtain ⟨l, e2⟩ := h2 (μ ++ nn k)
  exact ⟨k + l, by rw [e]; show f a _ = _; rw [e2, nn_nn]⟩
theorem SN.refl : ∀ μ : Store, ∃ k, Out.nx ρ μ = .nx ρ (μ ++ nn k) := fun μ => ⟨0, by simp [nn]⟩
theorem SR.refl : ∀ μ : Store, ∃ k, Out.rt d μ = .rt d (μ ++ nn k) := fun μ => ⟨0, by simp [nn]⟩
theorem SN.next : SN sNext ρ ρ := SN.refl
theorem SN.set {i : Nat} (h : GE δ ρ d) : SN (sSet i δ) ρ (ρ.set i (some d)) := SN.bindS h SN.refl
theorem SN.drop (h : GE δ ρ d) : SN (sDrop δ) ρ ρ := SN.bindS h SN.refl
theorem SR.ret (h : GE δ ρ d) : SR (sRet δ) ρ d := SR.bindS h SR.refl
theorem SN.par2 {i j : Nat} (h : GA δs ρ [x, y]) : SN (sPar2 i j δs) ρ ((ρ.set i (some x)).set j (some y)) := SN.bindS h SN.refl
theorem SN.par3 {i j l : Nat} (h : GA δs ρ [x, y, z]) : SN (sPar3 i j l δs) ρ (((ρ.set i (some x)).set j (some y)).set l (some z)) := SN.bindS h SN.refl
theorem SN.asg {γ : DenG} (h : GE δ ρ d) (h2 : ∀ μ, γ d ρ μ = .ok ρ1 μ) : SN (sAsg δ γ) ρ ρ1 := SN.bindS h fun μ => by
  rw [h2]
  exact SN.refl μ
theorem SN.ifT (h : GT t ρ true) (h2 : SN sa ρ ρ1) : SN (sIf t sa sb) ρ ρ1 := SN.bindS h h2
theorem SN.ifF (h : GT t ρ false) (h2 : SN sb ρ ρ1) : SN (sIf t sa sb) ρ ρ1 := SN.bindS h h2
theorem SR.ifT (h : GT t ρ true) (h2 : SR sa ρ d) : SR (sIf t sa sb) ρ d := SR.bindS h h2
theorem SR.ifF (h : GT t ρ false) (h2 : SR sb ρ d) : SR (sIf t sa sb) ρ d := SR.bindS h h2
theorem SN.ifN (h : GT t ρ b) (e : b = false) (h2 : SN sb ρ ρ1) : SN (sIf t sa sb) ρ ρ1 := SN.ifF (GT.eq h e) h2
theorem SN.ifY (h : GT t ρ b) (e : b = true) (h2 : SN sa ρ ρ1) : SN (sIf t sa sb) ρ ρ1 := SN.ifT (GT.eq h e) h2
theorem SR.ifN (h : GT t ρ b) (e : b = false) (h2 : SR sb ρ d) : SR (sIf t sa sb) ρ d := SR.ifF (GT.eq h e) h2
theorem SR.ifY (h : GT t ρ b) (e : b = true) (h2 : SR sa ρ d) : SR (sIf t sa sb) ρ d := SR.ifT (GT.eq h e) h2
theorem GE.ifN (h : GT t ρ b) (e : b = false) (h2 : GE δb ρ d) : GE (dIf t δa δb) ρ d := GE.ifF (GT.eq h e) h2
theorem GE.ifY (h : GT t ρ b) (e : b = true) (h2 : GE δa ρ d) : GE (dIf t δa δb) ρ d := GE.ifT (GT.eq h e) h2
theorem SN.seq (h : SN sa ρ ρ1) (h2 : SN sb ρ1 ρ2) : SN (sSeq sa sb) ρ ρ2 := fun μ => by
  obtain ⟨k, e⟩ := h μ
  obtain ⟨l, e2⟩ := h2 (μ ++ nn k)
  exact ⟨k + l, by rw [← nn_nn]; exact sv_seq e e2⟩
theorem SR.seq (h : SN sa ρ ρ1) (h2 : SR sb ρ1 d) : SR (sSeq sa sb) ρ d := fun μ => by
  obtain ⟨k, e⟩ := h μ
  obtain ⟨l, e2⟩ := h2 (μ ++ nn k)
  exact ⟨k + l, by rw [← nn_nn]; exact sv_seq e e2⟩
theorem SR.fst (h : SR sa ρ d) : SR (sSeq sa sb) ρ d := fun μ => by
  obtain ⟨k, e⟩ := h μ
  exact ⟨k, sv_retE e⟩
theorem MG.rt {n : Nat} (h : SR sa (startD n ds) d) : MG (runBody n sa) ds d := fun μ => by
  obtain ⟨k, e⟩ := h μ
  exact ⟨k, run_rt e⟩
theorem MG.nx {n : Nat} (h : SN sa (startD n ds) ρ1) : MG (runBody n sa) ds .non := fun μ => by
  obtain ⟨k, e⟩ := h μ
  exact ⟨k, run_nx e⟩
theorem FG.op (h : ∀ μ, o x y μ = some d) : FG (opF o) x y d := RO.pure fun μ => by
  show ofO (o x y μ) μ = _
  rw [h]
  rfl
theorem FG.or1 {F' : D → D → Store → Res D} (h : FG F x y d) : FG (orF F F') x y d := fun μ => by
  obtain ⟨k, e⟩ := h μ
  exact ⟨k, by unfold DL.orF; rw [e]⟩
theorem FG.or2 {F' : D → D → Store → Res D} (h0 : ∀ μ, F x y μ = .bad) (h : FG F' x y d) : FG (orF F F') x y d := fun μ => by
  obtain ⟨k, e⟩ := h μ
  exact ⟨k, by unfold DL.orF; rw [h0]; exact e⟩
theorem bad_op (h : ∀ μ, o x y μ = none) : ∀ μ, opF o x y μ = .bad := fun μ => by
  unfold opF
  rw [h]
  rfl
theorem bad_or {F' : D → D → Store → Res D} (h : ∀ μ, F x y μ = .bad) (h' : ∀ μ, F' x y μ = .bad) : ∀ μ, orF F F' x y μ = .bad := fun μ => by
  unfold DL.orF
  rw [h, h']
/-- a comprehension over data -/
theorem GE.lc {own : List Nat} {it : DenI} {γ : DenV} {τ : DenT} {items : List D} (h : RO (it ρ) items) (h2 : RO (lcL γ τ δ (wipeD ρ own) items []) xs) : GE (dLc own it γ τ δ) ρ (.lst xs) := RO.bind h (RO.bind h2 (RO.pure fun μ => rfl))
theorem GI.seq (h : GE δ ρ d) (h2 : fixS d = some xs) : RO (iSeq δ ρ) xs := RO.bind h (RO.pure fun μ => by show ofO (fixS d) μ = _; rw [h2]; rfl)
/-! loops over data -/
def FN (γ : DenG) (body : DenS) (items : List D) (ρ ρ' : Env) : Prop := ∀ μ, ∃ k, forL γ body items ρ μ = .nx ρ' (μ ++ nn k)
theorem FN.nil {γ : DenG} {body : DenS} : FN γ body [] ρ ρ := SN.refl
theorem FN.cons {γ : DenG} {body : DenS} {ρ3 : Env} (h : ∀ μ, γ d ρ μ = .ok ρ1 μ) (h2 : SN body ρ1 ρ2) (h3 : FN γ body ds ρ2 ρ3) : FN γ body (d :: ds) ρ ρ3 := fun μ => by
  obtain ⟨k, e⟩ := h2 μ
  obtain ⟨l, e2⟩ := h3 (μ ++ nn k)
  refine ⟨k + l, ?_⟩
  simp only [forL, h, e, e2, nn_nn]
theorem SN.for {it : DenI} {γ : DenG} {body : DenS} (h : RO (it ρ) xs) (h2 : FN γ body xs ρ ρ1) : SN (sFor it γ body) ρ ρ1 := SN.bindS h h2
theorem lc_nil {γ : DenV} {τ : DenT} : RO (lcL γ τ δ ρ [] xs) xs := RO.pure fun μ => rfl
/-! an __init__, row by row -/
def SI (s : DenS) (ρ ρ' : Env) (n c : Nat) (fs fs' : List (Str × D)) : Prop := ∀ μ : Store, μ[n]? = some (some (.ins c fs)) → ∃ k, s ρ μ = .nx ρ' (μ.set n (some (.ins c fs')) ++ nn k)
theorem set_get {μ : Store} {n : Nat} {v : Option MO} (h : μ[n]? = some v) : μ.set n v = μ := by
  obtain ⟨hl, e⟩ := List.getElem?_eq_some_iff.mp h
  rw [← e]
  exact List.set_getElem_self hl
theorem set_nn {μ : Store} {n : Nat} (h : n < μ.length) (v : Option MO) (k : Nat) : (μ ++ nn k).set n v = μ.set n v ++ nn k := List.set_append_left _ _ h
theorem SI.of {n c : Nat} {fs : List (Str × D)} (h : SN sa ρ ρ1) : SI sa ρ ρ1 n c fs fs := fun μ hμ => by
  obtain ⟨k, e⟩ := h μ
  exact ⟨k, by rw [e, set_get hμ]⟩
theorem SI.seq {n c : Nat} {fs fs1 fs2 : List (Str × D)} (h : SI sa ρ ρ1 n c fs fs1) (h2 : SI sb ρ1 ρ2 n c fs1 fs2) : SI (sSeq sa sb) ρ ρ2 n c fs fs2 := fun μ hμ => by
  have hl : n < μ.length := (List.getElem?_eq_some_iff.mp hμ).1
  obtain ⟨k, e⟩ := h μ hμ
  obtain ⟨l, e2⟩ := h2 (μ.set n (some (.ins c fs1)) ++ nn k) (by rw [List.getElem?_append_left (by rw [List.length_set]; exact hl), List.getElem?_set_self hl])
  refine ⟨k + l, sv_seq e ?_⟩
  rw [e2, set_nn (by rw [List.length_set]; exact hl), List.set_set, nn_nn]
theorem SI.fld {cs : List Nat} {f : Str} {n c : Nat} {fs : List (Str × D)} (he : GE δ ρ d) (ho : GE δo ρ (.loc n)) (hc : c ∈ cs) (hl0 : fs.length < 1000) {fs' : List (Str × D)} (e' : putD f d fs = fs') : SI (sFldD cs f δo δ) ρ ρ n c fs fs' := fun μ hμ => by
  subst e'
  have hl : n < μ.length := (List.getElem?_eq_some_iff.mp hμ).1
  obtain ⟨k, e⟩ := he μ
  obtain ⟨l, e2⟩ := ho (μ ++ nn k)
  refine ⟨k + l, ?_⟩
  unfold sFldD
  rw [e]
  simp only [DL.bindS]
  rw [e2]
  simp only [nn_nn]
  have eq : (μ ++ nn (k + l))[n]? = some (some (.ins c fs)) := by rw [List.getElem?_append_left hl, hμ]
  simp only [eq, if_pos (And.intro hc hl0), set_nn hl]
theorem MI.of {n0 c : Nat} {f : D → List D} {fs : List (Str × D)} (h : ∀ n, ∃ ρ1, SI sa (startD n0 (f (.loc n))) ρ1 n c [] fs) : MI (runBody n0 sa) c f fs := fun μ n hμ => by
  obtain ⟨ρ1, h1⟩ := h n
  obtain ⟨k, e⟩ := h1 μ hμ
  exact ⟨k, run_nx e⟩
end
end DL

set_option Elab.async false
set_option linter.all false
set_option autoImplicit false
set_option maxRecDepth 100000
/-! DL, part Mj: the head's facts, of named things only (the closure over all that the names reach costs 3 GB). -/
namespace DL
open PySem L2 PySem.Spec PyProof.Rows

def refsX (g : Addr → Option Obj) (a : Addr) : List Addr := match g a with
  | some o => He.refsD o
  | none => []
/-- the module's names, its classes and their dicts, what stands in these, what is wrapped there, the code of all defs -/
def addrX (cls fns : List Str) (me : List (Str × Str)) (wr : List (Str × String × Str)) (g : Addr → Option Obj) : List Addr :=
  let K0 := He.frG g [mainGlobals]
  let cs := cls.map (He.ga K0)
  let fs := fns.map (He.ga K0)
  let A2 := cs ++ (cs.flatMap (refsX g) ++ [mainGlobals, cStatics])
  let K2 := He.frG g A2
  let ms := me.map fun p => He.ma K2 (He.ga K0 p.1) p.2
  let A3 := A2 ++ ms
  let K3 := He.frG g A3
  let ws := wr.map fun p => He5.wf K3 (He.ga K0 p.1) p.2.1 p.2.2
  A3 ++ (ws ++ (fs ++ (fs ++ (ms ++ ws)).flatMap (refsX g)))
def readX (as : (Addr → Option Obj) → List Addr) (B : W.Frag → Bool) (fn : List He5.DefA) (g : Addr → Option Obj) : Bool × List He.FnW := tellC B fn (He.frG g (as g))
def hookX (as : (Addr → Option Obj) → List Addr) (B : W.Frag → Bool) (fn : List He5.DefA) : W.Hook where
  α := Bool × List He.FnW
  obs := fun s => readX as B fn s.heap.get?
  val := fun _ => wantC fn
  says := fun _ h => ∃ K : W.Frag, K.In h ∧ tellC B fn K = wantC fn
  of := fun _ _ e => ⟨_, He.frG_in, e⟩
  keeps := fun _ _ _ ⟨K, hK, c⟩ k => ⟨K, hK.keeps k, c⟩
def obX (as : (Addr → Option Obj) → List Addr) (B : W.Frag → Bool) (fn : List He5.DefA) (s : W.SharedT) : Bool × List He.FnW := readX as B fn (HandSHeadRun.getT s)
theorem obX_eq (as : (Addr → Option Obj) → List Addr) (B : W.Frag → Bool) (fn : List He5.DefA) (s : W.SharedT) : obX as B fn s = (hookX as B fn).obs s.abs := by
  have e : HandSHeadRun.getT s = s.abs.heap.get? := funext (HandSHeadRun.getT_eq s)
  show readX as B fn (HandSHeadRun.getT s) = readX as B fn s.abs.heap.get?
  rw [e]
end DL

set_option Elab.async false
set_option linter.all false
set_option autoImplicit false
set_option maxRecDepth 100000
set_option maxHeartbeats 4000000
/-! k18: what each def makes of data -/
namespace K18
open PySem L2 DL
def top (i : Nat) : Stmt := PySem.Challenge.pw_fademodes_k18_stage_one_by_names.main.body.getD i (.Pass ⟨0, 0, 0, 0⟩)
def kds : List Kd := [.inl 0, .inl 1, .inl 2, .inr "NoneType", .inr "bool", .inr "int", .inr "str", .inr "list", .inr "tuple", .inr "dict"]
def tabk : List ((Kd × Kd) × Bool) := [((.inl 0, .inr "int"), false), ((.inl 0, .inr "bool"), false), ((.inl 0, .inr "tuple"), false), ((.inl 0, .inl 0), true), ((.inl 0, .inl 1), false), ((.inl 0, .inl 2), false), ((.inl 1, .inr "int"), false), ((.inl 1, .inr "bool"), false), ((.inl 1, .inr "tuple"), false), ((.inl 1, .inl 0), false), ((.inl 1, .inl 1), true), ((.inl 1, .inl 2), false), ((.inl 2, .inr "int"), false), ((.inl 2, .inr "bool"), false), ((.inl 2, .inr "tuple"), false), ((.inl 2, .inl 0), false), ((.inl 2, .inl 1), false), ((.inl 2, .inl 2), true), ((.inr "NoneType", .inr "int"), false), ((.inr "NoneType", .inr "bool"), false), ((.inr "NoneType", .inr "tuple"), false), ((.inr "NoneType", .inl 0), false), ((.inr "NoneType", .inl 1), false), ((.inr "NoneType", .inl 2), false), ((.inr "bool", .inr "int"), true), ((.inr "bool", .inr "bool"), true), ((.inr "bool", .inr "tuple"), false), ((.inr "bool", .inl 0), false), ((.inr "bool", .inl 1), false), ((.inr "bool", .inl 2), false), ((.inr "int", .inr "int"), true), ((.inr "int", .inr "bool"), false), ((.inr "int", .inr "tuple"), false), ((.inr "int", .inl 0), false), ((.inr "int", .inl 1), false), ((.inr "int", .inl 2), false), ((.inr "str", .inr "int"), false), ((.inr "str", .inr "bool"), false), ((.inr "str", .inr "tuple"), false), ((.inr "str", .inl 0), false), ((.inr "str", .inl 1), false), ((.inr "str", .inl 2), false), ((.inr "list", .inr "int"), false), ((.inr "list", .inr "bool"), false), ((.inr "list", .inr "tuple"), false), ((.inr "list", .inl 0), false), ((.inr "list", .inl 1), false), ((.inr "list", .inl 2), false), ((.inr "tuple", .inr "int"), false), ((.inr "tuple", .inr "bool"), false), ((.inr "tuple", .inr "tuple"), true), ((.inr "tuple", .inl 0), false), ((.inr "tuple", .inl 1), false), ((.inr "tuple", .inl 2), false), ((.inr "dict", .inr "int"), false), ((.inr "dict", .inr "bool"), false), ((.inr "dict", .inr "tuple"), false), ((.inr "dict", .inl 0), false), ((.inr "dict", .inl 1), false), ((.inr "dict", .inl 2), false)]
def nbs : List Str := ("len" :: "min" :: "max" :: "range" :: "divmod" :: "int" :: "abs" :: "isinstance" :: "bool" :: "str" :: "tuple" :: "list" :: "all" :: [])
def fuelAt (j : Nat) (ρ : DL.Env) : Nat := match ρ[j]? with
  | some (some (D.int i)) => i.natAbs + 1
  | _ => 0
abbrev st__law_draw : Stmt := top 40
abbrev st__law_plain : Stmt := top 42
abbrev st__law_choice : Stmt := top 41
abbrev st__law_fraction : Stmt := top 43
abbrev st_is_integer : Stmt := top 12
abbrev st_divisor_of : Stmt := top 15
abbrev st_Ratio___init__ : Stmt := inClass (top 17) 0
abbrev st__law_thing : Stmt := top 44
abbrev st_Ratio___eq__ : Stmt := inClass (top 17) 13
abbrev st_Range___eq__ : Stmt := inClass (top 31) 8
abbrev st_Move___eq__ : Stmt := inClass (top 37) 24
abbrev st_is_number : Stmt := top 13
abbrev st_require_number : Stmt := top 14
abbrev st_Ratio_of : Stmt := inClass (top 17) 1
abbrev st_Ratio_top : Stmt := inClass (top 17) 4
abbrev st_Ratio_bottom : Stmt := inClass (top 17) 5
abbrev st_is_less : Stmt := top 16
abbrev st_Ratio_is_below : Stmt := inClass (top 17) 11
abbrev st_Ratio_sign : Stmt := inClass (top 17) 6
abbrev st_Ratio_over : Stmt := inClass (top 17) 12
abbrev st_Ratio___str__ : Stmt := inClass (top 17) 14
abbrev st__law_ratios_right : Stmt := top 45
abbrev st_is_cut : Stmt := top 20
abbrev st_require_cut : Stmt := top 21
abbrev st_is_beyond : Stmt := top 24
abbrev st_is_above : Stmt := top 25
abbrev st_is_first : Stmt := top 22
abbrev st_is_ahead : Stmt := top 23
abbrev st_is_stretch : Stmt := top 26
abbrev st_require_stretch : Stmt := top 27
abbrev st_Ratio___add__ : Stmt := inClass (top 17) 7
abbrev st_mark_of : Stmt := top 29
abbrev st_is_within : Stmt := top 28
abbrev st__law_cuts_right : Stmt := top 46
abbrev st_Range___init__ : Stmt := inClass (top 31) 0
abbrev st_Range_outer : Stmt := inClass (top 31) 3
abbrev st_Range_is_inner : Stmt := inClass (top 31) 4
abbrev st_as_cut : Stmt := top 30
abbrev st_Range_fit : Stmt := inClass (top 31) 5
abbrev st_Range_has_stretch : Stmt := inClass (top 31) 6
abbrev st_Range_low : Stmt := inClass (top 31) 1
abbrev st_Move_low : Stmt := inClass (top 37) 7
abbrev st_Range_high : Stmt := inClass (top 31) 2
abbrev st_Move_high : Stmt := inClass (top 37) 8
abbrev st_Range___contains__ : Stmt := inClass (top 31) 7
abbrev st__law_ranges_right : Stmt := top 47
abbrev st_Move___init__ : Stmt := inClass (top 37) 0
abbrev st_Move_divisor : Stmt := inClass (top 37) 5
abbrev st_Move_plus : Stmt := inClass (top 37) 6
abbrev st_extreme_of : Stmt := top 18
abbrev st_Ratio_least : Stmt := inClass (top 17) 2
abbrev st_Ratio_greatest : Stmt := inClass (top 17) 3
abbrev st_Move_held : Stmt := inClass (top 37) 19
abbrev st_Move_free : Stmt := inClass (top 37) 9
abbrev st_Move_at : Stmt := inClass (top 37) 10
abbrev st_require_move : Stmt := top 35
abbrev st_Ratio___mul__ : Stmt := inClass (top 17) 9
abbrev st_Move_then : Stmt := inClass (top 37) 11
abbrev st_require_range : Stmt := top 34
abbrev st_Ratio___neg__ : Stmt := inClass (top 17) 10
abbrev st_Ratio___sub__ : Stmt := inClass (top 17) 8
abbrev st_Move_back : Stmt := inClass (top 37) 12
abbrev st_Move_form : Stmt := inClass (top 37) 15
abbrev st_Move_upper_image : Stmt := inClass (top 37) 13
abbrev st_Move_lower_image : Stmt := inClass (top 37) 14
abbrev st_Move_upper_limit : Stmt := inClass (top 37) 22
abbrev st_Move_lower_limit : Stmt := inClass (top 37) 23
abbrev st_Move_is_alike : Stmt := inClass (top 37) 16
abbrev st_Move_added : Stmt := inClass (top 37) 18
abbrev st_Move_done : Stmt := inClass (top 37) 17
abbrev st_whole_above : Stmt := top 36
abbrev st_Move_counted : Stmt := inClass (top 37) 21
abbrev st_Move_tends : Stmt := inClass (top 37) 20
abbrev st__law_moves_right : Stmt := top 48
abbrev st_Move_setting : Stmt := inClass (top 37) 1
abbrev st_Move_staying : Stmt := inClass (top 37) 2
abbrev st_Move_adding : Stmt := inClass (top 37) 3
abbrev st_Move_dividing : Stmt := inClass (top 37) 4
abbrev st__law_class_methods_right : Stmt := top 49
abbrev st__law_right : Stmt := top 50
abbrev st__law_rng : Stmt := top 39
abbrev st_law : Stmt := top 51
def gk_Ratio___init___2 : List D → List D → List D := pick .non [.pos 0, .pos 1, .pos 2] [.int 1]
def gk_Ratio___init___0_top_bottom : List D → List D → List D := pick .non [.pos 0, .kw 0, .kw 1] [.int 1]
def gk_Ratio___init___0_bottom_top : List D → List D → List D := pick .non [.pos 0, .kw 1, .kw 0] [.int 1]
def gk_Ratio___init___0_top : List D → List D → List D := pick .non [.pos 0, .kw 0, .dfl 0] [.int 1]
def gk_Ratio___init___1 : List D → List D → List D := pick .non [.pos 0, .pos 1, .dfl 0] [.int 1]
def gk_Ratio_of_0_number : List D → List D → List D := pick .non [.pos 0, .kw 0] []
def gk_is_number_0_value : List D → List D → List D := pick .non [.kw 0] []
def gk_Ratio_of_1 : List D → List D → List D := pick .non [.pos 0, .pos 1] []
def gk_Ratio_is_below_0_other : List D → List D → List D := pick .non [.pos 0, .kw 0] []
def gk_Ratio_is_below_1 : List D → List D → List D := pick .non [.pos 0, .pos 1] []
def gk_Ratio_over_0_other : List D → List D → List D := pick .non [.pos 0, .kw 0] []
def gk_Ratio_over_1 : List D → List D → List D := pick .non [.pos 0, .pos 1] []
def gk_is_cut_0_value : List D → List D → List D := pick .non [.kw 0] []
def gk_is_above_0_cut_number : List D → List D → List D := pick .non [.kw 1, .kw 0] []
def gk_is_ahead_0_other_one : List D → List D → List D := pick .non [.kw 1, .kw 0] []
def gk_is_stretch_0_value : List D → List D → List D := pick .non [.kw 0] []
def gk_mark_of_0_stretch : List D → List D → List D := pick .non [.kw 0] []
def gk_is_within_0_stretch_number : List D → List D → List D := pick .non [.kw 1, .kw 0] []
def gk_Range___init___0_high_low : List D → List D → List D := pick .non [.pos 0, .kw 1, .kw 0] []
def gk_Range___init___2 : List D → List D → List D := pick .non [.pos 0, .pos 1, .pos 2] []
def gk_Range_outer_0 : List D → List D → List D := pick .non [.pos 0] []
def gk_Range_is_inner_0_cut : List D → List D → List D := pick .non [.pos 0, .kw 0] []
def gk_Range_is_inner_1 : List D → List D → List D := pick .non [.pos 0, .pos 1] []
def gk_Range_fit_0_cut : List D → List D → List D := pick .non [.pos 0, .kw 0] []
def gk_Range_fit_1 : List D → List D → List D := pick .non [.pos 0, .pos 1] []
def gk_Range_has_stretch_0_value : List D → List D → List D := pick .non [.pos 0, .kw 0] []
def gk_Move___init___0_high_low_plus_divisor : List D → List D → List D := pick .non [.pos 0, .kw 3, .kw 2, .kw 1, .kw 0] []
def gk_Move___init___4 : List D → List D → List D := pick .non [.pos 0, .pos 1, .pos 2, .pos 3, .pos 4] []
def gk_Move_held_1 : List D → List D → List D := pick .non [.pos 0, .pos 1] []
def gk_Move_free_1 : List D → List D → List D := pick .non [.pos 0, .pos 1] []
def gk_Move_at_0_number : List D → List D → List D := pick .non [.pos 0, .kw 0] []
def gk_Move_at_1 : List D → List D → List D := pick .non [.pos 0, .pos 1] []
def gk_Move_then_0_other : List D → List D → List D := pick .non [.pos 0, .kw 0] []
def gk_Move_then_1 : List D → List D → List D := pick .non [.pos 0, .pos 1] []
def gk_Move_back_0_within_cut : List D → List D → List D := pick .non [.pos 0, .kw 1, .kw 0] []
def gk_Move_back_2 : List D → List D → List D := pick .non [.pos 0, .pos 1, .pos 2] []
def gk_Move_form_0_within : List D → List D → List D := pick .non [.pos 0, .kw 0] []
def gk_Move_form_1 : List D → List D → List D := pick .non [.pos 0, .pos 1] []
def gk_Move_upper_image_0_cut : List D → List D → List D := pick .non [.pos 0, .kw 0] []
def gk_Move_upper_image_1 : List D → List D → List D := pick .non [.pos 0, .pos 1] []
def gk_Move_lower_image_0_cut : List D → List D → List D := pick .non [.pos 0, .kw 0] []
def gk_Move_lower_image_1 : List D → List D → List D := pick .non [.pos 0, .pos 1] []
def gk_Move_upper_limit_0_cut : List D → List D → List D := pick .non [.pos 0, .kw 0] []
def gk_Move_upper_limit_1 : List D → List D → List D := pick .non [.pos 0, .pos 1] []
def gk_Move_lower_limit_0_cut : List D → List D → List D := pick .non [.pos 0, .kw 0] []
def gk_Move_lower_limit_1 : List D → List D → List D := pick .non [.pos 0, .pos 1] []
def gk_Move_is_alike_0_within_other : List D → List D → List D := pick .non [.pos 0, .kw 1, .kw 0] []
def gk_Move_is_alike_2 : List D → List D → List D := pick .non [.pos 0, .pos 1, .pos 2] []
def gk_Move_added_1 : List D → List D → List D := pick .non [.pos 0, .pos 1] []
def gk_Move_done_0_times : List D → List D → List D := pick .non [.pos 0, .kw 0] []
def gk_Move_done_1 : List D → List D → List D := pick .non [.pos 0, .pos 1] []
def gk_Move_counted_1 : List D → List D → List D := pick .non [.pos 0, .pos 1] []
def gk_Move_tends_0_number : List D → List D → List D := pick .non [.pos 0, .kw 0] []
def gk_Move_tends_1 : List D → List D → List D := pick .non [.pos 0, .pos 1] []
def gk_Move_setting_0_number : List D → List D → List D := pick .non [.pos 0, .kw 0] []
def gk_Move_setting_1 : List D → List D → List D := pick .non [.pos 0, .pos 1] []
def gk_Move_staying_0_within : List D → List D → List D := pick .non [.pos 0, .kw 0] []
def gk_Move_staying_1 : List D → List D → List D := pick .non [.pos 0, .pos 1] []
def gk_Move_adding_0_within_number : List D → List D → List D := pick .non [.pos 0, .kw 1, .kw 0] []
def gk_Move_adding_2 : List D → List D → List D := pick .non [.pos 0, .pos 1, .pos 2] []
def gk_Move_dividing_0_within_divisor : List D → List D → List D := pick .non [.pos 0, .kw 1, .kw 0] []
def gk_Move_dividing_2 : List D → List D → List D := pick .non [.pos 0, .pos 1, .pos 2] []
abbrev d__law_draw : DenS := sSeq (sIf (dIsB (dBin gtI (dBin ixD (dVar 0) (dC (.int 0))) (dC (.int 0)))) (sSeq (sAsg (dBlt divmodB (dCons (dBin ixD (dVar 0) (dC (.int 0))) (dCons (dVar 1) (dNil)))) (gTupD 2 (gsCons (gSubD (dVar 0) (dC (.int 0))) (gsCons (gSet 2) (gsNil))))) (sRet (dVar 2))) (sNext)) (sSeq (sAsg (dBin modI (dBlt intB (dCons (dBin addD (dBin mulD (dBin ixD (dVar 0) (dC (.int 1))) (dC (.int 48271))) (dC (.int 12227))) (dNil))) (dC (.int 2147483587))) (gSubD (dVar 0) (dC (.int 1)))) (sRet (dBin modI (dBlt intB (dCons (dBin divI (dBin modI (dBlt intB (dCons (dBin mulD (dBin ixD (dVar 0) (dC (.int 1))) (dBin ixD (dVar 0) (dC (.int 1)))) (dNil))) (dC (.int 2147483549))) (dC (.int 13))) (dNil))) (dVar 1))))
@[irreducible] def m__law_draw : Mir := runBody 3 d__law_draw
def fuel__law_plain : DL.Env → Store → Nat := fun ρ _ => fuelAt 4 ρ
abbrev d__law_plain : DenS := sSeq (sPar2 3 4 (dCons (dBlt absB (dCons (dVar 0) (dNil))) (dCons (dBlt absB (dCons (dVar 1) (dNil))) (dNil)))) (sSeq (sWhile fuel__law_plain (dIsB (dBin neP (dVar 4) (dC (.int 0)))) (sPar2 3 4 (dCons (dVar 4) (dCons (dBin modI (dBlt intB (dCons (dVar 3) (dNil))) (dVar 4)) (dNil))))) (sSeq (sSet 2 (dIf (dIsB (dBin ltI (dVar 1) (dC (.int 0)))) (dUn negD (dC (.int 1))) (dC (.int 1)))) (sRet (dTup (dCons (dBin divZ (dBin mulD (dVar 2) (dVar 0)) (dVar 3)) (dCons (dBin divZ (dBlt absB (dCons (dVar 1) (dNil))) (dVar 3)) (dNil)))))))
@[irreducible] def m__law_plain : Mir := runBody 5 d__law_plain
abbrev d__law_choice : DenS := sRet (dBin ixD (dVar 1) (dCallK 2 0 gP m__law_draw (dCons (dVar 0) (dCons (dBlt lenB (dCons (dVar 1) (dNil))) (dNil))) dNil))
@[irreducible] def m__law_choice : Mir := runBody 2 d__law_choice
abbrev d__law_fraction : DenS := sSeq (sIf (dIsB (dBin eqP (dCallK 2 0 gP m__law_draw (dCons (dVar 0) (dCons (dC (.int 16)) (dNil))) dNil) (dC (.int 15)))) (sRet (dCallK 2 0 gP m__law_plain (dCons (dCallK 2 0 gP m__law_choice (dCons (dVar 0) (dCons (dLst (dCons (dBin addD (dBin powI (dC (.int 10)) (dC (.int 24))) (dC (.int 1))) (dCons (dUn negD (dBin powI (dC (.int 10)) (dC (.int 24)))) (dCons (dBin mulD (dC (.int 7)) (dBin powI (dC (.int 10)) (dC (.int 11)))) (dNil))))) (dNil))) dNil) (dCons (dBin addD (dC (.int 1)) (dCallK 2 0 gP m__law_draw (dCons (dVar 0) (dCons (dBin powI (dC (.int 10)) (dC (.int 6))) (dNil))) dNil)) (dNil))) dNil)) (sNext)) (sRet (dCallK 2 0 gP m__law_plain (dCons (dBin subI (dCallK 2 0 gP m__law_draw (dCons (dVar 0) (dCons (dC (.int 41)) (dNil))) dNil) (dC (.int 20))) (dCons (dCallK 2 0 gP m__law_choice (dCons (dVar 0) (dCons (dLst (dCons (dC (.int 1)) (dCons (dC (.int 1)) (dCons (dC (.int 2)) (dCons (dC (.int 3)) (dCons (dC (.int 4)) (dCons (dC (.int 12)) (dNil)))))))) (dNil))) dNil) (dNil))) dNil))
@[irreducible] def m__law_fraction : Mir := runBody 1 d__law_fraction
abbrev d_is_integer : DenS := sRet (dAndV (dBlt (isD [0, 1, 2] [] tabk) (dCons (dVar 0) (dCons (dC (.ty "int")) (dNil)))) (dNotV (dBlt (isD [0, 1, 2] [] tabk) (dCons (dVar 0) (dCons (dC (.ty "bool")) (dNil))))))
@[irreducible] def m_is_integer : Mir := runBody 1 d_is_integer
def fuel_divisor_of : DL.Env → Store → Nat := fun ρ _ => fuelAt 1 ρ
abbrev d_divisor_of : DenS := sSeq (sPar2 0 1 (dCons (dBlt absB (dCons (dVar 0) (dNil))) (dCons (dBlt absB (dCons (dVar 1) (dNil))) (dNil)))) (sSeq (sWhile fuel_divisor_of (dIsB (dBin gtI (dVar 1) (dC (.int 0)))) (sPar2 0 1 (dCons (dVar 1) (dCons (dBin modI (dVar 0) (dVar 1)) (dNil))))) (sRet (dVar 0)))
@[irreducible] def m_divisor_of : Mir := runBody 2 d_divisor_of
abbrev d_Ratio___init__ : DenS := sSeq (sIf (dNotT (dTru (dCallK 1 0 gP m_is_integer (dCons (dVar 1) (dNil)) dNil))) (sBad) (sNext)) (sSeq (sIf (dOrT (dNotT (dTru (dCallK 1 0 gP m_is_integer (dCons (dVar 2) (dNil)) dNil))) (dIsB (dBin eqP (dVar 2) (dC (.int 0))))) (sBad) (sNext)) (sSeq (sSet 3 (dIf (dIsB (dBin gtI (dVar 2) (dC (.int 0)))) (dCallK 2 0 gP m_divisor_of (dCons (dVar 1) (dCons (dVar 2) (dNil))) dNil) (dUn negD (dCallK 2 0 gP m_divisor_of (dCons (dVar 1) (dCons (dVar 2) (dNil))) dNil)))) (sSeq (sFldD [0] "own_top" (dVar 0) (dBin divZ (dVar 1) (dVar 3))) (sFldD [0] "own_bottom" (dVar 0) (dBin divZ (dVar 2) (dVar 3))))))
@[irreducible] def m_Ratio___init__ : Mir := runBody 4 d_Ratio___init__
abbrev d__law_thing : DenS := sSeq (sSet 1 (dCallK 1 0 gP m__law_fraction (dCons (dVar 0) (dNil)) dNil)) (sRet (dMake 0 2 0 gk_Ratio___init___2 m_Ratio___init__ (dCons (dBin ixD (dVar 1) (dC (.int 0))) (dCons (dBin ixD (dVar 1) (dC (.int 1))) (dNil))) (dNil)))
@[irreducible] def m__law_thing : Mir := runBody 2 d__law_thing
abbrev d_Ratio___eq__ : DenS := sRet (dAndV (dBlt (isD [0, 1, 2] [] tabk) (dCons (dVar 1) (dCons (dC (.cls 0)) (dNil)))) (dAndV (dBin eqP (dFld [0] "own_top" (dVar 0)) (dFld [0] "own_top" (dVar 1))) (dBin eqP (dFld [0] "own_bottom" (dVar 0)) (dFld [0] "own_bottom" (dVar 1)))))
@[irreducible] def m_Ratio___eq__ : Mir := runBody 2 d_Ratio___eq__
def qR (fs gs : List (Str × D)) : Option Bool := match fs, gs with
  | [(x, .int a), (y, .int b)], [(z, .int c), (u, .int d)] => if x = "own_top" ∧ y = "own_bottom" ∧ z = "own_top" ∧ u = "own_bottom" then some (a == c && b == d) else none
  | _, _ => none
def eqR : D → D → Store → Res D := orF (opF eqP) (eqF [0, 1, 2] [] 0 m_Ratio___eq__ kds)
def neR : D → D → Store → Res D := orF (opF neP) (neF [0, 1, 2] [] 0 m_Ratio___eq__ kds)
def eqT : D → D → Store → Res D := orF eqR (deqF false 0 qR 2)
def neT : D → D → Store → Res D := orF neR (deqF true 0 qR 2)
abbrev d_Range___eq__ : DenS := sRet (dAndV (dBlt (isD [0, 1, 2] [] tabk) (dCons (dVar 1) (dCons (dC (.cls 1)) (dNil)))) (dAndV (dTwo eqR (dFld [1, 2] "own_low" (dVar 0)) (dFld [1, 2] "own_low" (dVar 1))) (dTwo eqR (dFld [1, 2] "own_high" (dVar 0)) (dFld [1, 2] "own_high" (dVar 1)))))
@[irreducible] def m_Range___eq__ : Mir := runBody 2 d_Range___eq__
abbrev d_Move___eq__ : DenS := sSeq (sIf (dOrT (dNotT (dTru (dBlt (isD [0, 1, 2] [] tabk) (dCons (dVar 1) (dCons (dC (.cls 2)) (dNil)))))) (dOrT (dIsB (dTwo neR (dFld [2] "own_divisor" (dVar 0)) (dFld [2] "own_divisor" (dVar 1)))) (dIsB (dTwo neR (dFld [2] "own_plus" (dVar 0)) (dFld [2] "own_plus" (dVar 1)))))) (sRet (dC (.bl false))) (sNext)) (sRet (dAndV (dTwo eqR (dFld [1, 2] "own_low" (dVar 0)) (dFld [1, 2] "own_low" (dVar 1))) (dTwo eqR (dFld [1, 2] "own_high" (dVar 0)) (dFld [1, 2] "own_high" (dVar 1)))))
@[irreducible] def m_Move___eq__ : Mir := runBody 2 d_Move___eq__
def eqU : D → D → Store → Res D := orF eqT (orF (eqF [0, 1, 2] [] 1 m_Range___eq__ kds) (eqF [0, 1, 2] [] 2 m_Move___eq__ kds))
def neU : D → D → Store → Res D := orF neT (orF (neF [0, 1, 2] [] 1 m_Range___eq__ kds) (neF [0, 1, 2] [] 2 m_Move___eq__ kds))
abbrev d_is_number : DenS := sRet (dOrV (dCallK 1 0 gP m_is_integer (dCons (dVar 0) (dNil)) dNil) (dBlt (isD [0, 1, 2] [] tabk) (dCons (dVar 0) (dCons (dC (.cls 0)) (dNil)))))
@[irreducible] def m_is_number : Mir := runBody 1 d_is_number
abbrev d_require_number : DenS := sIf (dNotT (dTru (dCallK 1 0 gP m_is_number (dCons (dVar 0) (dNil)) dNil))) (sBad) (sNext)
@[irreducible] def m_require_number : Mir := runBody 1 d_require_number
abbrev d_Ratio_of : DenS := sSeq (sDrop (dCallK 1 0 gP m_require_number (dCons (dVar 1) (dNil)) dNil)) (sRet (dIf (dTru (dCallK 1 0 gP m_is_integer (dCons (dVar 1) (dNil)) dNil)) (dMake 0 1 0 gk_Ratio___init___1 m_Ratio___init__ (dCons (dVar 1) (dNil)) (dNil)) (dVar 1)))
@[irreducible] def m_Ratio_of : Mir := runBody 2 d_Ratio_of
abbrev d_Ratio_top : DenS := sRet (dFld [0] "own_top" (dVar 0))
@[irreducible] def m_Ratio_top : Mir := runBody 1 d_Ratio_top
abbrev d_Ratio_bottom : DenS := sRet (dFld [0] "own_bottom" (dVar 0))
@[irreducible] def m_Ratio_bottom : Mir := runBody 1 d_Ratio_bottom
abbrev d_is_less : DenS := sRet (dBin ltI (dBin mulD (dProp [(0, m_Ratio_top)] (dVar 0)) (dProp [(0, m_Ratio_bottom)] (dVar 1))) (dBin mulD (dProp [(0, m_Ratio_top)] (dVar 1)) (dProp [(0, m_Ratio_bottom)] (dVar 0))))
@[irreducible] def m_is_less : Mir := runBody 2 d_is_less
abbrev d_Ratio_is_below : DenS := sRet (dCallK 2 0 gP m_is_less (dCons (dVar 0) (dCons (dCMeth 0 1 0 gk_Ratio_of_1 m_Ratio_of (dC (.cls 0)) (dCons (dVar 1) (dNil)) (dNil)) (dNil))) dNil)
@[irreducible] def m_Ratio_is_below : Mir := runBody 2 d_Ratio_is_below
abbrev d_Ratio_sign : DenS := sRet (dBin subI (dBlt intB (dCons (dBin gtI (dFld [0] "own_top" (dVar 0)) (dC (.int 0))) (dNil))) (dBlt intB (dCons (dBin ltI (dFld [0] "own_top" (dVar 0)) (dC (.int 0))) (dNil))))
@[irreducible] def m_Ratio_sign : Mir := runBody 1 d_Ratio_sign
abbrev d_Ratio_over : DenS := sSeq (sSet 2 (dCMeth 0 1 0 gk_Ratio_of_1 m_Ratio_of (dC (.cls 0)) (dCons (dVar 1) (dNil)) (dNil))) (sSeq (sIf (dIsB (dBin eqP (dFld [0] "own_top" (dVar 2)) (dC (.int 0)))) (sBad) (sNext)) (sRet (dMake 0 2 0 gk_Ratio___init___2 m_Ratio___init__ (dCons (dBin mulD (dFld [0] "own_top" (dVar 0)) (dFld [0] "own_bottom" (dVar 2))) (dCons (dBin mulD (dFld [0] "own_bottom" (dVar 0)) (dFld [0] "own_top" (dVar 2))) (dNil))) (dNil))))
@[irreducible] def m_Ratio_over : Mir := runBody 3 d_Ratio_over
abbrev d_Ratio___str__ : DenS := sSeq (sIf (dIsB (dBin eqP (dFld [0] "own_bottom" (dVar 0)) (dC (.int 1)))) (sRet (dUn fmtD (dFld [0] "own_top" (dVar 0)))) (sNext)) (sRet (dJoin [dUn fmtD (dFld [0] "own_top" (dVar 0)), dC (.str "/"), dUn fmtD (dFld [0] "own_bottom" (dVar 0))]))
@[irreducible] def m_Ratio___str__ : Mir := runBody 1 d_Ratio___str__
abbrev d__law_ratios_right : DenS := sSeq (sSet 4 (dMake 0 0 2 gk_Ratio___init___0_top_bottom m_Ratio___init__ (dNil) (dCons (dVar 2) (dCons (dVar 3) (dNil))))) (sSeq (sIf (dOrT (dIsB (dTwo neR (dVar 4) (dMake 0 0 2 gk_Ratio___init___0_bottom_top m_Ratio___init__ (dNil) (dCons (dVar 3) (dCons (dVar 2) (dNil)))))) (dIsB (dTwo neR (dVar 4) (dMake 0 2 0 gk_Ratio___init___2 m_Ratio___init__ (dCons (dVar 2) (dCons (dVar 3) (dNil))) (dNil))))) (sRet (dC (.bl false))) (sNext)) (sSeq (sIf (dOrT (dIsB (dTwo neR (dMake 0 0 1 gk_Ratio___init___0_top m_Ratio___init__ (dNil) (dCons (dVar 2) (dNil))) (dMake 0 2 0 gk_Ratio___init___2 m_Ratio___init__ (dCons (dVar 2) (dCons (dC (.int 1)) (dNil))) (dNil)))) (dIsB (dTwo neR (dCMeth 0 0 1 gk_Ratio_of_0_number m_Ratio_of (dC (.cls 0)) (dNil) (dCons (dVar 0) (dNil))) (dVar 0)))) (sRet (dC (.bl false))) (sNext)) (sSeq (sIf (dOrT (dIsB (dBin notB (dCallK 0 1 gk_is_number_0_value m_is_number (dNil) (dCons (dVar 0) (dNil))) (dC (.bl true)))) (dIsB (dTwo neR (dMeth "is_below" 0 1 gk_Ratio_is_below_0_other [(0, m_Ratio_is_below)] (dVar 0) (dNil) (dCons (dVar 1) (dNil))) (dMeth "is_below" 1 0 gk_Ratio_is_below_1 [(0, m_Ratio_is_below)] (dVar 0) (dCons (dVar 1) (dNil)) (dNil))))) (sRet (dC (.bl false))) (sNext)) (sSeq (sIf (dAndT (dIsB (dTwo neR (dProp [(0, m_Ratio_sign)] (dVar 1)) (dC (.int 0)))) (dIsB (dTwo neR (dMeth "over" 0 1 gk_Ratio_over_0_other [(0, m_Ratio_over)] (dVar 0) (dNil) (dCons (dVar 1) (dNil))) (dMeth "over" 1 0 gk_Ratio_over_1 [(0, m_Ratio_over)] (dVar 0) (dCons (dVar 1) (dNil)) (dNil))))) (sRet (dC (.bl false))) (sNext)) (sRet (dAndV (dTwo neR (dVar 0) (dLst (dCons (dVar 0) (dNil)))) (dAndV (dNotV (dTwo eqR (dVar 0) (dBltW (strF 0 m_Ratio___str__) (dCons (dVar 0) (dNil))))) (dTwo eqR (dVar 0) (dMeth "over" 1 0 gk_Ratio_over_1 [(0, m_Ratio_over)] (dVar 0) (dCons (dC (.int 1)) (dNil)) (dNil))))))))))
@[irreducible] def m__law_ratios_right : Mir := runBody 5 d__law_ratios_right
abbrev d_is_cut : DenS := sRet (dAndV (dBlt (isD [0, 1, 2] [] tabk) (dCons (dVar 0) (dCons (dC (.ty "tuple")) (dNil)))) (dAndV (dBin eqP (dBlt lenB (dCons (dVar 0) (dNil))) (dC (.int 2))) (dAndV (dCallK 1 0 gP m_is_number (dCons (dBin ixD (dVar 0) (dC (.int 0))) (dNil)) dNil) (dBlt (isD [0, 1, 2] [] tabk) (dCons (dBin ixD (dVar 0) (dC (.int 1))) (dCons (dC (.ty "bool")) (dNil)))))))
@[irreducible] def m_is_cut : Mir := runBody 1 d_is_cut
abbrev d_require_cut : DenS := sIf (dNotT (dTru (dCallK 1 0 gP m_is_cut (dCons (dVar 0) (dNil)) dNil))) (sBad) (sNext)
@[irreducible] def m_require_cut : Mir := runBody 1 d_require_cut
abbrev d_is_beyond : DenS := sSeq (sPar2 2 3 (dCons (dCMeth 0 1 0 gk_Ratio_of_1 m_Ratio_of (dC (.cls 0)) (dCons (dVar 0) (dNil)) (dNil)) (dCons (dCMeth 0 1 0 gk_Ratio_of_1 m_Ratio_of (dC (.cls 0)) (dCons (dBin ixD (dVar 1) (dC (.int 0))) (dNil)) (dNil)) (dNil)))) (sRet (dOrV (dCallK 2 0 gP m_is_less (dCons (dVar 3) (dCons (dVar 2) (dNil))) dNil) (dAndV (dTwo eqR (dVar 2) (dVar 3)) (dNotV (dBin ixD (dVar 1) (dC (.int 1)))))))
@[irreducible] def m_is_beyond : Mir := runBody 4 d_is_beyond
abbrev d_is_above : DenS := sSeq (sDrop (dCallK 1 0 gP m_require_number (dCons (dVar 0) (dNil)) dNil)) (sSeq (sDrop (dCallK 1 0 gP m_require_cut (dCons (dVar 1) (dNil)) dNil)) (sRet (dCallK 2 0 gP m_is_beyond (dCons (dVar 0) (dCons (dVar 1) (dNil))) dNil)))
@[irreducible] def m_is_above : Mir := runBody 2 d_is_above
abbrev d_is_first : DenS := sSeq (sPar2 2 3 (dCons (dCMeth 0 1 0 gk_Ratio_of_1 m_Ratio_of (dC (.cls 0)) (dCons (dBin ixD (dVar 0) (dC (.int 0))) (dNil)) (dNil)) (dCons (dCMeth 0 1 0 gk_Ratio_of_1 m_Ratio_of (dC (.cls 0)) (dCons (dBin ixD (dVar 1) (dC (.int 0))) (dNil)) (dNil)) (dNil)))) (sRet (dOrV (dCallK 2 0 gP m_is_less (dCons (dVar 2) (dCons (dVar 3) (dNil))) dNil) (dAndV (dTwo eqR (dVar 2) (dVar 3)) (dAndV (dBin ixD (dVar 1) (dC (.int 1))) (dNotV (dBin ixD (dVar 0) (dC (.int 1))))))))
@[irreducible] def m_is_first : Mir := runBody 4 d_is_first
abbrev d_is_ahead : DenS := sSeq (sDrop (dCallK 1 0 gP m_require_cut (dCons (dVar 0) (dNil)) dNil)) (sSeq (sDrop (dCallK 1 0 gP m_require_cut (dCons (dVar 1) (dNil)) dNil)) (sRet (dCallK 2 0 gP m_is_first (dCons (dVar 0) (dCons (dVar 1) (dNil))) dNil)))
@[irreducible] def m_is_ahead : Mir := runBody 2 d_is_ahead
abbrev d_is_stretch : DenS := sSeq (sSet 1 (dAndV (dBlt (isD [0, 1, 2] [] tabk) (dCons (dVar 0) (dCons (dC (.ty "tuple")) (dNil)))) (dAndV (dBin eqP (dBlt lenB (dCons (dVar 0) (dNil))) (dC (.int 2))) (dAndV (dCallK 1 0 gP m_is_cut (dCons (dBin ixD (dVar 0) (dC (.int 0))) (dNil)) dNil) (dCallK 1 0 gP m_is_cut (dCons (dBin ixD (dVar 0) (dC (.int 1))) (dNil)) dNil))))) (sRet (dAndV (dVar 1) (dCallK 2 0 gP m_is_first (dCons (dBin ixD (dVar 0) (dC (.int 0))) (dCons (dBin ixD (dVar 0) (dC (.int 1))) (dNil))) dNil)))
@[irreducible] def m_is_stretch : Mir := runBody 2 d_is_stretch
abbrev d_require_stretch : DenS := sIf (dNotT (dTru (dCallK 1 0 gP m_is_stretch (dCons (dVar 0) (dNil)) dNil))) (sBad) (sNext)
@[irreducible] def m_require_stretch : Mir := runBody 1 d_require_stretch
abbrev d_Ratio___add__ : DenS := sSeq (sSet 2 (dCMeth 0 1 0 gk_Ratio_of_1 m_Ratio_of (dC (.cls 0)) (dCons (dVar 1) (dNil)) (dNil))) (sSeq (sSet 3 (dBin addD (dBin mulD (dFld [0] "own_top" (dVar 0)) (dFld [0] "own_bottom" (dVar 2))) (dBin mulD (dFld [0] "own_top" (dVar 2)) (dFld [0] "own_bottom" (dVar 0))))) (sRet (dMake 0 2 0 gk_Ratio___init___2 m_Ratio___init__ (dCons (dVar 3) (dCons (dBin mulD (dFld [0] "own_bottom" (dVar 0)) (dFld [0] "own_bottom" (dVar 2))) (dNil))) (dNil))))
@[irreducible] def m_Ratio___add__ : Mir := runBody 4 d_Ratio___add__
def addU : D → D → Store → Res D := orF (opF addD) (ownF [0, 1, 2] [] 0 m_Ratio___add__ ["int"])
abbrev d_mark_of : DenS := sSeq (sDrop (dCallK 1 0 gP m_require_stretch (dCons (dVar 0) (dNil)) dNil)) (sSeq (sAsg (dVar 0) (gTupD 2 (gsCons (gTupD 2 (gsCons (gSet 1) (gsCons (gSet 2) (gsNil)))) (gsCons (gTupD 2 (gsCons (gSet 3) (gsCons (gSet 4) (gsNil)))) (gsNil))))) (sSeq (sIf (dOrT (dNotT (dTru (dVar 2))) (dTru (dVar 4))) (sRet (dCMeth 0 1 0 gk_Ratio_of_1 m_Ratio_of (dC (.cls 0)) (dCons (dIf (dTru (dVar 2)) (dVar 3) (dVar 1)) (dNil)) (dNil))) (sNext)) (sRet (dMeth "over" 1 0 gk_Ratio_over_1 [(0, m_Ratio_over)] (dTwo addU (dCMeth 0 1 0 gk_Ratio_of_1 m_Ratio_of (dC (.cls 0)) (dCons (dVar 1) (dNil)) (dNil)) (dVar 3)) (dCons (dC (.int 2)) (dNil)) (dNil)))))
@[irreducible] def m_mark_of : Mir := runBody 5 d_mark_of
abbrev d_is_within : DenS := sSeq (sDrop (dCallK 1 0 gP m_require_number (dCons (dVar 0) (dNil)) dNil)) (sSeq (sDrop (dCallK 1 0 gP m_require_stretch (dCons (dVar 1) (dNil)) dNil)) (sRet (dAndV (dCallK 2 0 gP m_is_beyond (dCons (dVar 0) (dCons (dBin ixD (dVar 1) (dC (.int 0))) (dNil))) dNil) (dNotV (dCallK 2 0 gP m_is_beyond (dCons (dVar 0) (dCons (dBin ixD (dVar 1) (dC (.int 1))) (dNil))) dNil)))))
@[irreducible] def m_is_within : Mir := runBody 2 d_is_within
abbrev d__law_cuts_right : DenS := sSeq (sPar2 4 5 (dCons (dTup (dCons (dVar 0) (dCons (dBin ixD (dVar 2) (dC (.int 0))) (dNil)))) (dCons (dTup (dCons (dVar 1) (dCons (dBin ixD (dVar 2) (dC (.int 1))) (dNil)))) (dNil)))) (sSeq (sIf (dIsB (dTwo neT (dLst (dCons (dCallK 0 1 gk_is_cut_0_value m_is_cut (dNil) (dCons (dVar 4) (dNil))) (dCons (dCallK 0 2 gk_is_above_0_cut_number m_is_above (dNil) (dCons (dVar 4) (dCons (dVar 1) (dNil)))) (dNil)))) (dLst (dCons (dC (.bl true)) (dCons (dCallK 2 0 gP m_is_above (dCons (dVar 1) (dCons (dVar 4) (dNil))) dNil) (dNil)))))) (sRet (dC (.bl false))) (sNext)) (sSeq (sIf (dIsB (dTwo neT (dCallK 0 2 gk_is_ahead_0_other_one m_is_ahead (dNil) (dCons (dVar 5) (dCons (dVar 4) (dNil)))) (dCallK 2 0 gP m_is_ahead (dCons (dVar 4) (dCons (dVar 5) (dNil))) dNil))) (sRet (dC (.bl false))) (sNext)) (sSeq (sSet 3 (dIf (dTru (dCallK 2 0 gP m_is_ahead (dCons (dVar 4) (dCons (dVar 5) (dNil))) dNil)) (dTup (dCons (dVar 4) (dCons (dVar 5) (dNil)))) (dTup (dCons (dVar 5) (dCons (dVar 4) (dNil)))))) (sSeq (sIf (dIsB (dTwo eqT (dVar 4) (dVar 5))) (sRet (dBin isB (dCallK 0 1 gk_is_stretch_0_value m_is_stretch (dNil) (dCons (dVar 3) (dNil))) (dC (.bl false)))) (sNext)) (sSeq (sIf (dOrT (dIsB (dBin notB (dCallK 0 1 gk_is_stretch_0_value m_is_stretch (dNil) (dCons (dVar 3) (dNil))) (dC (.bl true)))) (dIsB (dTwo neT (dCallK 0 1 gk_mark_of_0_stretch m_mark_of (dNil) (dCons (dVar 3) (dNil))) (dCallK 1 0 gP m_mark_of (dCons (dVar 3) (dNil)) dNil)))) (sRet (dC (.bl false))) (sNext)) (sRet (dTwo eqT (dCallK 0 2 gk_is_within_0_stretch_number m_is_within (dNil) (dCons (dVar 3) (dCons (dVar 0) (dNil)))) (dCallK 2 0 gP m_is_within (dCons (dVar 0) (dCons (dVar 3) (dNil))) dNil))))))))
@[irreducible] def m__law_cuts_right : Mir := runBody 6 d__law_cuts_right
abbrev d_Range___init__ : DenS := sSeq (sDrop (dCallK 1 0 gP m_require_number (dCons (dVar 1) (dNil)) dNil)) (sSeq (sDrop (dCallK 1 0 gP m_require_number (dCons (dVar 2) (dNil)) dNil)) (sSeq (sIf (dTru (dCallK 2 0 gP m_is_less (dCons (dCMeth 0 1 0 gk_Ratio_of_1 m_Ratio_of (dC (.cls 0)) (dCons (dVar 2) (dNil)) (dNil)) (dCons (dCMeth 0 1 0 gk_Ratio_of_1 m_Ratio_of (dC (.cls 0)) (dCons (dVar 1) (dNil)) (dNil)) (dNil))) dNil)) (sBad) (sNext)) (sSeq (sFldD [1, 2] "own_low" (dVar 0) (dCMeth 0 1 0 gk_Ratio_of_1 m_Ratio_of (dC (.cls 0)) (dCons (dVar 1) (dNil)) (dNil))) (sFldD [1, 2] "own_high" (dVar 0) (dCMeth 0 1 0 gk_Ratio_of_1 m_Ratio_of (dC (.cls 0)) (dCons (dVar 2) (dNil)) (dNil))))))
@[irreducible] def m_Range___init__ : Mir := runBody 3 d_Range___init__
abbrev d_Range_outer : DenS := sRet (dTup (dCons (dTup (dCons (dFld [1, 2] "own_low" (dVar 0)) (dCons (dC (.bl false)) (dNil)))) (dCons (dTup (dCons (dFld [1, 2] "own_high" (dVar 0)) (dCons (dC (.bl true)) (dNil)))) (dNil))))
@[irreducible] def m_Range_outer : Mir := runBody 1 d_Range_outer
abbrev d_Range_is_inner : DenS := sSeq (sDrop (dCallK 1 0 gP m_require_cut (dCons (dVar 1) (dNil)) dNil)) (sSeq (sAsg (dMeth "outer" 0 0 gk_Range_outer_0 [(1, m_Range_outer)] (dVar 0) (dNil) (dNil)) (gTupD 2 (gsCons (gSet 2) (gsCons (gSet 3) (gsNil))))) (sRet (dAndV (dCallK 2 0 gP m_is_first (dCons (dVar 2) (dCons (dVar 1) (dNil))) dNil) (dCallK 2 0 gP m_is_first (dCons (dVar 1) (dCons (dVar 3) (dNil))) dNil))))
@[irreducible] def m_Range_is_inner : Mir := runBody 4 d_Range_is_inner
abbrev d_as_cut : DenS := sRet (dTup (dCons (dCMeth 0 1 0 gk_Ratio_of_1 m_Ratio_of (dC (.cls 0)) (dCons (dBin ixD (dVar 0) (dC (.int 0))) (dNil)) (dNil)) (dCons (dBin ixD (dVar 0) (dC (.int 1))) (dNil))))
@[irreducible] def m_as_cut : Mir := runBody 1 d_as_cut
abbrev d_Range_fit : DenS := sSeq (sDrop (dCallK 1 0 gP m_require_cut (dCons (dVar 1) (dNil)) dNil)) (sSeq (sAsg (dMeth "outer" 0 0 gk_Range_outer_0 [(1, m_Range_outer)] (dVar 0) (dNil) (dNil)) (gTupD 2 (gsCons (gSet 2) (gsCons (gSet 3) (gsNil))))) (sSeq (sIf (dNotT (dTru (dCallK 2 0 gP m_is_first (dCons (dVar 2) (dCons (dVar 1) (dNil))) dNil))) (sRet (dVar 2)) (sNext)) (sRet (dIf (dTru (dCallK 2 0 gP m_is_first (dCons (dVar 1) (dCons (dVar 3) (dNil))) dNil)) (dCallK 1 0 gP m_as_cut (dCons (dVar 1) (dNil)) dNil) (dVar 3)))))
@[irreducible] def m_Range_fit : Mir := runBody 4 d_Range_fit
abbrev d_Range_has_stretch : DenS := sSeq (sAsg (dMeth "outer" 0 0 gk_Range_outer_0 [(1, m_Range_outer)] (dVar 0) (dNil) (dNil)) (gTupD 2 (gsCons (gSet 2) (gsCons (gSet 3) (gsNil))))) (sRet (dAndV (dCallK 1 0 gP m_is_stretch (dCons (dVar 1) (dNil)) dNil) (dAndV (dNotV (dCallK 2 0 gP m_is_first (dCons (dBin ixD (dVar 1) (dC (.int 0))) (dCons (dVar 2) (dNil))) dNil)) (dNotV (dCallK 2 0 gP m_is_first (dCons (dVar 3) (dCons (dBin ixD (dVar 1) (dC (.int 1))) (dNil))) dNil)))))
@[irreducible] def m_Range_has_stretch : Mir := runBody 4 d_Range_has_stretch
abbrev d_Range_low : DenS := sRet (dFld [1, 2] "own_low" (dVar 0))
@[irreducible] def m_Range_low : Mir := runBody 1 d_Range_low
abbrev d_Move_low : DenS := sRet (dFld [1, 2] "own_low" (dVar 0))
@[irreducible] def m_Move_low : Mir := runBody 1 d_Move_low
abbrev d_Range_high : DenS := sRet (dFld [1, 2] "own_high" (dVar 0))
@[irreducible] def m_Range_high : Mir := runBody 1 d_Range_high
abbrev d_Move_high : DenS := sRet (dFld [1, 2] "own_high" (dVar 0))
@[irreducible] def m_Move_high : Mir := runBody 1 d_Move_high
abbrev d_Range___contains__ : DenS := sSeq (sIf (dNotT (dTru (dCallK 1 0 gP m_is_number (dCons (dVar 1) (dNil)) dNil))) (sRet (dC (.bl false))) (sNext)) (sSeq (sSet 2 (dCMeth 0 1 0 gk_Ratio_of_1 m_Ratio_of (dC (.cls 0)) (dCons (dVar 1) (dNil)) (dNil))) (sRet (dAndV (dNotV (dCallK 2 0 gP m_is_less (dCons (dVar 2) (dCons (dFld [1, 2] "own_low" (dVar 0)) (dNil))) dNil)) (dNotV (dCallK 2 0 gP m_is_less (dCons (dFld [1, 2] "own_high" (dVar 0)) (dCons (dVar 2) (dNil))) dNil)))))
@[irreducible] def m_Range___contains__ : Mir := runBody 3 d_Range___contains__
abbrev d__law_ranges_right : DenS := sSeq (sAsg (dIf (dTru (dMeth "is_below" 1 0 gk_Ratio_is_below_1 [(0, m_Ratio_is_below)] (dVar 1) (dCons (dVar 0) (dNil)) (dNil))) (dTup (dCons (dVar 1) (dCons (dVar 0) (dNil)))) (dTup (dCons (dVar 0) (dCons (dVar 1) (dNil))))) (gTupD 2 (gsCons (gSet 5) (gsCons (gSet 6) (gsNil))))) (sSeq (sSet 3 (dMake 1 0 2 gk_Range___init___0_high_low m_Range___init__ (dNil) (dCons (dVar 6) (dCons (dVar 5) (dNil))))) (sSeq (sIf (dOrT (dIsB (dTwo neU (dVar 3) (dMake 1 2 0 gk_Range___init___2 m_Range___init__ (dCons (dVar 5) (dCons (dVar 6) (dNil))) (dNil)))) (dOrT (dIsB (dTwo eqU (dVar 3) (dTup (dCons (dVar 5) (dCons (dVar 6) (dNil)))))) (dIsB (dTwo neU (dMeth "outer" 0 0 gk_Range_outer_0 [(1, m_Range_outer)] (dVar 3) (dNil) (dNil)) (dMeth "outer" 0 0 gk_Range_outer_0 [(1, m_Range_outer)] (dMake 1 2 0 gk_Range___init___2 m_Range___init__ (dCons (dVar 5) (dCons (dVar 6) (dNil))) (dNil)) (dNil) (dNil)))))) (sRet (dC (.bl false))) (sNext)) (sSeq (sSet 4 (dTup (dCons (dVar 1) (dCons (dBin ixD (dVar 2) (dC (.int 0))) (dNil))))) (sSeq (sIf (dOrT (dIsB (dTwo neU (dMeth "is_inner" 0 1 gk_Range_is_inner_0_cut [(1, m_Range_is_inner)] (dVar 3) (dNil) (dCons (dVar 4) (dNil))) (dMeth "is_inner" 1 0 gk_Range_is_inner_1 [(1, m_Range_is_inner)] (dVar 3) (dCons (dVar 4) (dNil)) (dNil)))) (dIsB (dTwo neU (dMeth "fit" 0 1 gk_Range_fit_0_cut [(1, m_Range_fit)] (dVar 3) (dNil) (dCons (dVar 4) (dNil))) (dMeth "fit" 1 0 gk_Range_fit_1 [(1, m_Range_fit)] (dVar 3) (dCons (dVar 4) (dNil)) (dNil))))) (sRet (dC (.bl false))) (sNext)) (sSeq (sIf (dOrT (dIsB (dBin notB (dMeth "has_stretch" 0 1 gk_Range_has_stretch_0_value [(1, m_Range_has_stretch)] (dVar 3) (dNil) (dCons (dMeth "outer" 0 0 gk_Range_outer_0 [(1, m_Range_outer)] (dVar 3) (dNil) (dNil)) (dNil))) (dC (.bl true)))) (dIsB (dBin notB (dMeth "has_stretch" 0 1 gk_Range_has_stretch_0_value [(1, m_Range_has_stretch)] (dVar 3) (dNil) (dCons (dBlt listB (dCons (dMeth "outer" 0 0 gk_Range_outer_0 [(1, m_Range_outer)] (dVar 3) (dNil) (dNil)) (dNil))) (dNil))) (dC (.bl false))))) (sRet (dC (.bl false))) (sNext)) (sRet (dAndV (dTwo eqU (dLst (dCons (dProp [(1, m_Range_low), (2, m_Move_low)] (dVar 3)) (dCons (dProp [(1, m_Range_high), (2, m_Move_high)] (dVar 3)) (dNil)))) (dLst (dCons (dVar 5) (dCons (dVar 6) (dNil))))) (dAndV (dTwo (inOwnF 1 m_Range___contains__) (dVar 5) (dVar 3)) (dAndV (dTwo (inOwnF 1 m_Range___contains__) (dVar 6) (dVar 3)) (dNotV (dTwo eqU (dVar 3) (dMeth "outer" 0 0 gk_Range_outer_0 [(1, m_Range_outer)] (dVar 3) (dNil) (dNil)))))))))))))
@[irreducible] def m__law_ranges_right : Mir := runBody 7 d__law_ranges_right
abbrev d_Move___init__ : DenS := sSeq (sIf (dOrT (dNotT (dTru (dCallK 1 0 gP m_is_integer (dCons (dVar 1) (dNil)) dNil))) (dIsB (dBin ltI (dVar 1) (dC (.int 1))))) (sBad) (sNext)) (sSeq (sFor (iSeq (dTup (dCons (dTup (dCons (dC (.str "plus")) (dCons (dVar 2) (dNil)))) (dCons (dTup (dCons (dC (.str "low")) (dCons (dVar 3) (dNil)))) (dCons (dTup (dCons (dC (.str "high")) (dCons (dVar 4) (dNil)))) (dNil)))))) (gTupD 2 (gsCons (gSet 5) (gsCons (gSet 6) (gsNil)))) (sIf (dNotT (dTru (dCallK 1 0 gP m_is_number (dCons (dVar 6) (dNil)) dNil))) (sBad) (sNext))) (sSeq (sIf (dTru (dCallK 2 0 gP m_is_less (dCons (dCMeth 0 1 0 gk_Ratio_of_1 m_Ratio_of (dC (.cls 0)) (dCons (dVar 4) (dNil)) (dNil)) (dCons (dCMeth 0 1 0 gk_Ratio_of_1 m_Ratio_of (dC (.cls 0)) (dCons (dVar 3) (dNil)) (dNil)) (dNil))) dNil)) (sBad) (sNext)) (sSeq (sFldD [2] "own_divisor" (dVar 0) (dVar 1)) (sSeq (sFldD [2] "own_plus" (dVar 0) (dCMeth 0 1 0 gk_Ratio_of_1 m_Ratio_of (dC (.cls 0)) (dCons (dVar 2) (dNil)) (dNil))) (sSeq (sFldD [1, 2] "own_low" (dVar 0) (dCMeth 0 1 0 gk_Ratio_of_1 m_Ratio_of (dC (.cls 0)) (dCons (dVar 3) (dNil)) (dNil))) (sFldD [1, 2] "own_high" (dVar 0) (dCMeth 0 1 0 gk_Ratio_of_1 m_Ratio_of (dC (.cls 0)) (dCons (dVar 4) (dNil)) (dNil))))))))
@[irreducible] def m_Move___init__ : Mir := runBody 7 d_Move___init__
abbrev d_Move_divisor : DenS := sRet (dFld [2] "own_divisor" (dVar 0))
@[irreducible] def m_Move_divisor : Mir := runBody 1 d_Move_divisor
abbrev d_Move_plus : DenS := sRet (dFld [2] "own_plus" (dVar 0))
@[irreducible] def m_Move_plus : Mir := runBody 1 d_Move_plus
abbrev d_extreme_of : DenS := sSeq (sIf (dIsB (dBin eqP (dBlt lenB (dCons (dVar 0) (dNil))) (dC (.int 0)))) (sBad) (sNext)) (sSeq (sSet 2 (dCMeth 0 1 0 gk_Ratio_of_1 m_Ratio_of (dC (.cls 0)) (dCons (dBin ixD (dVar 0) (dC (.int 0))) (dNil)) (dNil))) (sSeq (sFor (iSeq (dVar 0)) (gSet 3) (sSeq (sSet 4 (dCMeth 0 1 0 gk_Ratio_of_1 m_Ratio_of (dC (.cls 0)) (dCons (dVar 3) (dNil)) (dNil))) (sIf (dIfT (dTru (dVar 1)) (dTru (dCallK 2 0 gP m_is_less (dCons (dVar 4) (dCons (dVar 2) (dNil))) dNil)) (dTru (dCallK 2 0 gP m_is_less (dCons (dVar 2) (dCons (dVar 4) (dNil))) dNil))) (sSet 2 (dVar 4)) (sNext)))) (sRet (dVar 2))))
@[irreducible] def m_extreme_of : Mir := runBody 5 d_extreme_of
abbrev d_Ratio_least : DenS := sRet (dCallK 2 0 gP m_extreme_of (dCons (dVar 1) (dCons (dC (.bl true)) (dNil))) dNil)
@[irreducible] def m_Ratio_least : Mir := runBody 2 d_Ratio_least
abbrev d_Ratio_greatest : DenS := sRet (dCallK 2 0 gP m_extreme_of (dCons (dVar 1) (dCons (dC (.bl false)) (dNil))) dNil)
@[irreducible] def m_Ratio_greatest : Mir := runBody 2 d_Ratio_greatest
abbrev d_Move_held : DenS := sRet (dCMethS 0 m_Ratio_least (dC (.cls 0)) (dCons (dFld [1, 2] "own_high" (dVar 0)) (dCons (dCMethS 0 m_Ratio_greatest (dC (.cls 0)) (dCons (dFld [1, 2] "own_low" (dVar 0)) (dCons (dVar 1) (dNil)))) (dNil))))
@[irreducible] def m_Move_held : Mir := runBody 2 d_Move_held
abbrev d_Move_free : DenS := sRet (dMeth "over" 1 0 gk_Ratio_over_1 [(0, m_Ratio_over)] (dTwo addU (dCMeth 0 1 0 gk_Ratio_of_1 m_Ratio_of (dC (.cls 0)) (dCons (dVar 1) (dNil)) (dNil)) (dFld [2] "own_plus" (dVar 0))) (dCons (dFld [2] "own_divisor" (dVar 0)) (dNil)) (dNil))
@[irreducible] def m_Move_free : Mir := runBody 2 d_Move_free
abbrev d_Move_at : DenS := sSeq (sDrop (dCallK 1 0 gP m_require_number (dCons (dVar 1) (dNil)) dNil)) (sRet (dMeth "held" 1 0 gk_Move_held_1 [(2, m_Move_held)] (dVar 0) (dCons (dMeth "free" 1 0 gk_Move_free_1 [(2, m_Move_free)] (dVar 0) (dCons (dVar 1) (dNil)) (dNil)) (dNil)) (dNil)))
@[irreducible] def m_Move_at : Mir := runBody 2 d_Move_at
abbrev d_require_move : DenS := sIf (dNotT (dTru (dBlt (isD [0, 1, 2] [] tabk) (dCons (dVar 0) (dCons (dC (.cls 2)) (dNil)))))) (sBad) (sNext)
@[irreducible] def m_require_move : Mir := runBody 1 d_require_move
abbrev d_Ratio___mul__ : DenS := sSeq (sSet 2 (dCMeth 0 1 0 gk_Ratio_of_1 m_Ratio_of (dC (.cls 0)) (dCons (dVar 1) (dNil)) (dNil))) (sRet (dMake 0 2 0 gk_Ratio___init___2 m_Ratio___init__ (dCons (dBin mulD (dFld [0] "own_top" (dVar 0)) (dFld [0] "own_top" (dVar 2))) (dCons (dBin mulD (dFld [0] "own_bottom" (dVar 0)) (dFld [0] "own_bottom" (dVar 2))) (dNil))) (dNil)))
@[irreducible] def m_Ratio___mul__ : Mir := runBody 3 d_Ratio___mul__
def mulU : D → D → Store → Res D := orF (opF mulD) (ownF [0, 1, 2] [] 0 m_Ratio___mul__ ["int"])
abbrev d_Move_then : DenS := sSeq (sDrop (dCallK 1 0 gP m_require_move (dCons (dVar 1) (dNil)) dNil)) (sSeq (sSet 2 (dTwo addU (dFld [2] "own_plus" (dVar 0)) (dTwo mulU (dProp [(2, m_Move_plus)] (dVar 1)) (dFld [2] "own_divisor" (dVar 0))))) (sRet (dMake 2 4 0 gk_Move___init___4 m_Move___init__ (dCons (dTwo mulU (dFld [2] "own_divisor" (dVar 0)) (dProp [(2, m_Move_divisor)] (dVar 1))) (dCons (dVar 2) (dCons (dMeth "at" 1 0 gk_Move_at_1 [(2, m_Move_at)] (dVar 1) (dCons (dFld [1, 2] "own_low" (dVar 0)) (dNil)) (dNil)) (dCons (dMeth "at" 1 0 gk_Move_at_1 [(2, m_Move_at)] (dVar 1) (dCons (dFld [1, 2] "own_high" (dVar 0)) (dNil)) (dNil)) (dNil))))) (dNil))))
@[irreducible] def m_Move_then : Mir := runBody 3 d_Move_then
abbrev d_require_range : DenS := sIf (dNotT (dTru (dBlt (isD [0, 1, 2] [] tabk) (dCons (dVar 0) (dCons (dC (.cls 1)) (dNil)))))) (sBad) (sNext)
@[irreducible] def m_require_range : Mir := runBody 1 d_require_range
abbrev d_Ratio___neg__ : DenS := sRet (dMake 0 2 0 gk_Ratio___init___2 m_Ratio___init__ (dCons (dUn negD (dFld [0] "own_top" (dVar 0))) (dCons (dFld [0] "own_bottom" (dVar 0)) (dNil))) (dNil))
@[irreducible] def m_Ratio___neg__ : Mir := runBody 1 d_Ratio___neg__
def negU : D → Store → Res D := negF 0 m_Ratio___neg__
abbrev d_Ratio___sub__ : DenS := sRet (dTwo addU (dVar 0) (dOne negU (dCMeth 0 1 0 gk_Ratio_of_1 m_Ratio_of (dC (.cls 0)) (dCons (dVar 1) (dNil)) (dNil))))
@[irreducible] def m_Ratio___sub__ : Mir := runBody 2 d_Ratio___sub__
def subU : D → D → Store → Res D := orF (opF subI) (ownF [0, 1, 2] [] 0 m_Ratio___sub__ ["int"])
abbrev d_Move_back : DenS := sSeq (sDrop (dCallK 1 0 gP m_require_cut (dCons (dVar 1) (dNil)) dNil)) (sSeq (sDrop (dCallK 1 0 gP m_require_range (dCons (dVar 2) (dNil)) dNil)) (sSeq (sAsg (dMeth "outer" 0 0 gk_Range_outer_0 [(1, m_Range_outer)] (dVar 2) (dNil) (dNil)) (gTupD 2 (gsCons (gSet 3) (gsCons (gSet 4) (gsNil))))) (sSeq (sIf (dTru (dCallK 2 0 gP m_is_beyond (dCons (dMeth "at" 1 0 gk_Move_at_1 [(2, m_Move_at)] (dVar 0) (dCons (dProp [(1, m_Range_low), (2, m_Move_low)] (dVar 2)) (dNil)) (dNil)) (dCons (dVar 1) (dNil))) dNil)) (sRet (dVar 3)) (sNext)) (sSeq (sIf (dNotT (dTru (dCallK 2 0 gP m_is_beyond (dCons (dMeth "at" 1 0 gk_Move_at_1 [(2, m_Move_at)] (dVar 0) (dCons (dProp [(1, m_Range_high), (2, m_Move_high)] (dVar 2)) (dNil)) (dNil)) (dCons (dVar 1) (dNil))) dNil))) (sRet (dVar 4)) (sNext)) (sRet (dMeth "fit" 1 0 gk_Range_fit_1 [(1, m_Range_fit)] (dVar 2) (dCons (dTup (dCons (dTwo subU (dTwo mulU (dCMeth 0 1 0 gk_Ratio_of_1 m_Ratio_of (dC (.cls 0)) (dCons (dBin ixD (dVar 1) (dC (.int 0))) (dNil)) (dNil)) (dFld [2] "own_divisor" (dVar 0))) (dFld [2] "own_plus" (dVar 0))) (dCons (dBin ixD (dVar 1) (dC (.int 1))) (dNil)))) (dNil)) (dNil)))))))
@[irreducible] def m_Move_back : Mir := runBody 5 d_Move_back
abbrev d_Move_form : DenS := sSeq (sDrop (dCallK 1 0 gP m_require_range (dCons (dVar 1) (dNil)) dNil)) (sSeq (sPar2 2 3 (dCons (dMeth "at" 1 0 gk_Move_at_1 [(2, m_Move_at)] (dVar 0) (dCons (dProp [(1, m_Range_low), (2, m_Move_low)] (dVar 1)) (dNil)) (dNil)) (dCons (dMeth "at" 1 0 gk_Move_at_1 [(2, m_Move_at)] (dVar 0) (dCons (dProp [(1, m_Range_high), (2, m_Move_high)] (dVar 1)) (dNil)) (dNil)) (dNil)))) (sSeq (sAsg (dIf (dIsB (dTwo eqR (dVar 2) (dVar 3))) (dTup (dCons (dC .non) (dCons (dC .non) (dNil)))) (dTup (dCons (dFld [2] "own_divisor" (dVar 0)) (dCons (dFld [2] "own_plus" (dVar 0)) (dNil))))) (gTupD 2 (gsCons (gSet 4) (gsCons (gSet 5) (gsNil))))) (sRet (dTup (dCons (dVar 4) (dCons (dVar 5) (dCons (dVar 2) (dCons (dVar 3) (dNil)))))))))
@[irreducible] def m_Move_form : Mir := runBody 6 d_Move_form
abbrev d_Move_upper_image : DenS := sSeq (sDrop (dCallK 1 0 gP m_require_cut (dCons (dVar 1) (dNil)) dNil)) (sSeq (sSet 2 (dMeth "free" 1 0 gk_Move_free_1 [(2, m_Move_free)] (dVar 0) (dCons (dBin ixD (dVar 1) (dC (.int 0))) (dNil)) (dNil))) (sSeq (sSet 3 (dOrV (dCallK 2 0 gP m_is_less (dCons (dFld [1, 2] "own_high" (dVar 0)) (dCons (dVar 2) (dNil))) dNil) (dOrV (dNotV (dCallK 2 0 gP m_is_less (dCons (dFld [1, 2] "own_low" (dVar 0)) (dCons (dVar 2) (dNil))) dNil)) (dTwo eqR (dFld [1, 2] "own_low" (dVar 0)) (dFld [1, 2] "own_high" (dVar 0)))))) (sRet (dTup (dCons (dMeth "at" 1 0 gk_Move_at_1 [(2, m_Move_at)] (dVar 0) (dCons (dBin ixD (dVar 1) (dC (.int 0))) (dNil)) (dNil)) (dCons (dOrV (dBin ixD (dVar 1) (dC (.int 1))) (dVar 3)) (dNil)))))))
@[irreducible] def m_Move_upper_image : Mir := runBody 4 d_Move_upper_image
abbrev d_Move_lower_image : DenS := sSeq (sDrop (dCallK 1 0 gP m_require_cut (dCons (dVar 1) (dNil)) dNil)) (sSeq (sSet 2 (dMeth "free" 1 0 gk_Move_free_1 [(2, m_Move_free)] (dVar 0) (dCons (dBin ixD (dVar 1) (dC (.int 0))) (dNil)) (dNil))) (sSeq (sSet 3 (dOrV (dCallK 2 0 gP m_is_less (dCons (dVar 2) (dCons (dFld [1, 2] "own_low" (dVar 0)) (dNil))) dNil) (dOrV (dNotV (dCallK 2 0 gP m_is_less (dCons (dVar 2) (dCons (dFld [1, 2] "own_high" (dVar 0)) (dNil))) dNil)) (dTwo eqR (dFld [1, 2] "own_low" (dVar 0)) (dFld [1, 2] "own_high" (dVar 0)))))) (sRet (dTup (dCons (dMeth "at" 1 0 gk_Move_at_1 [(2, m_Move_at)] (dVar 0) (dCons (dBin ixD (dVar 1) (dC (.int 0))) (dNil)) (dNil)) (dCons (dAndV (dBin ixD (dVar 1) (dC (.int 1))) (dNotV (dVar 3))) (dNil)))))))
@[irreducible] def m_Move_lower_image : Mir := runBody 4 d_Move_lower_image
abbrev d_Move_upper_limit : DenS := sSeq (sIf (dNotT (dTru (dCallK 2 0 gP m_is_first (dCons (dVar 1) (dCons (dMeth "upper_image" 1 0 gk_Move_upper_image_1 [(2, m_Move_upper_image)] (dVar 0) (dCons (dVar 1) (dNil)) (dNil)) (dNil))) dNil))) (sRet (dTup (dCons (dCMeth 0 1 0 gk_Ratio_of_1 m_Ratio_of (dC (.cls 0)) (dCons (dBin ixD (dVar 1) (dC (.int 0))) (dNil)) (dNil)) (dCons (dBin ixD (dVar 1) (dC (.int 1))) (dNil))))) (sNext)) (sSeq (sIf (dIsB (dBin eqP (dFld [2] "own_divisor" (dVar 0)) (dC (.int 1)))) (sRet (dTup (dCons (dIf (dIsB (dBin gtI (dProp [(0, m_Ratio_sign)] (dFld [2] "own_plus" (dVar 0))) (dC (.int 0)))) (dFld [1, 2] "own_high" (dVar 0)) (dFld [1, 2] "own_low" (dVar 0))) (dCons (dC (.bl true)) (dNil))))) (sNext)) (sSeq (sSet 2 (dMeth "over" 1 0 gk_Ratio_over_1 [(0, m_Ratio_over)] (dFld [2] "own_plus" (dVar 0)) (dCons (dBin subI (dFld [2] "own_divisor" (dVar 0)) (dC (.int 1))) (dNil)) (dNil))) (sSeq (sIf (dNotT (dTru (dCallK 2 0 gP m_is_less (dCons (dFld [1, 2] "own_low" (dVar 0)) (dCons (dVar 2) (dNil))) dNil))) (sRet (dTup (dCons (dFld [1, 2] "own_low" (dVar 0)) (dCons (dC (.bl true)) (dNil))))) (sNext)) (sRet (dIf (dTru (dCallK 2 0 gP m_is_less (dCons (dFld [1, 2] "own_high" (dVar 0)) (dCons (dVar 2) (dNil))) dNil)) (dTup (dCons (dFld [1, 2] "own_high" (dVar 0)) (dCons (dC (.bl true)) (dNil)))) (dTup (dCons (dVar 2) (dCons (dC (.bl false)) (dNil)))))))))
@[irreducible] def m_Move_upper_limit : Mir := runBody 3 d_Move_upper_limit
abbrev d_Move_lower_limit : DenS := sSeq (sIf (dNotT (dTru (dCallK 2 0 gP m_is_first (dCons (dMeth "lower_image" 1 0 gk_Move_lower_image_1 [(2, m_Move_lower_image)] (dVar 0) (dCons (dVar 1) (dNil)) (dNil)) (dCons (dVar 1) (dNil))) dNil))) (sRet (dTup (dCons (dCMeth 0 1 0 gk_Ratio_of_1 m_Ratio_of (dC (.cls 0)) (dCons (dBin ixD (dVar 1) (dC (.int 0))) (dNil)) (dNil)) (dCons (dBin ixD (dVar 1) (dC (.int 1))) (dNil))))) (sNext)) (sSeq (sIf (dIsB (dBin eqP (dFld [2] "own_divisor" (dVar 0)) (dC (.int 1)))) (sRet (dTup (dCons (dIf (dIsB (dBin ltI (dProp [(0, m_Ratio_sign)] (dFld [2] "own_plus" (dVar 0))) (dC (.int 0)))) (dFld [1, 2] "own_low" (dVar 0)) (dFld [1, 2] "own_high" (dVar 0))) (dCons (dC (.bl false)) (dNil))))) (sNext)) (sSeq (sSet 2 (dMeth "over" 1 0 gk_Ratio_over_1 [(0, m_Ratio_over)] (dFld [2] "own_plus" (dVar 0)) (dCons (dBin subI (dFld [2] "own_divisor" (dVar 0)) (dC (.int 1))) (dNil)) (dNil))) (sSeq (sIf (dNotT (dTru (dCallK 2 0 gP m_is_less (dCons (dVar 2) (dCons (dFld [1, 2] "own_high" (dVar 0)) (dNil))) dNil))) (sRet (dTup (dCons (dFld [1, 2] "own_high" (dVar 0)) (dCons (dC (.bl false)) (dNil))))) (sNext)) (sRet (dIf (dTru (dCallK 2 0 gP m_is_less (dCons (dVar 2) (dCons (dFld [1, 2] "own_low" (dVar 0)) (dNil))) dNil)) (dTup (dCons (dFld [1, 2] "own_low" (dVar 0)) (dCons (dC (.bl false)) (dNil)))) (dTup (dCons (dVar 2) (dCons (dC (.bl true)) (dNil)))))))))
@[irreducible] def m_Move_lower_limit : Mir := runBody 3 d_Move_lower_limit
abbrev d_Move_is_alike : DenS := sSeq (sDrop (dCallK 1 0 gP m_require_move (dCons (dVar 1) (dNil)) dNil)) (sSeq (sDrop (dCallK 1 0 gP m_require_range (dCons (dVar 2) (dNil)) dNil)) (sRet (dTwo eqT (dMeth "form" 1 0 gk_Move_form_1 [(2, m_Move_form)] (dVar 0) (dCons (dVar 2) (dNil)) (dNil)) (dMeth "form" 1 0 gk_Move_form_1 [(2, m_Move_form)] (dVar 1) (dCons (dVar 2) (dNil)) (dNil)))))
@[irreducible] def m_Move_is_alike : Mir := runBody 3 d_Move_is_alike
abbrev d_Move_added : DenS := sSeq (sSet 2 (dTwo mulU (dFld [2] "own_plus" (dVar 0)) (dBin subI (dVar 1) (dC (.int 1))))) (sSeq (sAsg (dLc [5] (iSeq (dTup (dCons (dFld [1, 2] "own_low" (dVar 0)) (dCons (dFld [1, 2] "own_high" (dVar 0)) (dNil))))) (vName 5) tYesD (dMeth "held" 1 0 gk_Move_held_1 [(2, m_Move_held)] (dVar 0) (dCons (dTwo addU (dVar 5) (dVar 2)) (dNil)) (dNil))) (gLstD 2 (gsCons (gSet 3) (gsCons (gSet 4) (gsNil))))) (sRet (dMake 2 4 0 gk_Move___init___4 m_Move___init__ (dCons (dC (.int 1)) (dCons (dTwo mulU (dFld [2] "own_plus" (dVar 0)) (dVar 1)) (dCons (dVar 3) (dCons (dVar 4) (dNil))))) (dNil))))
@[irreducible] def m_Move_added : Mir := runBody 6 d_Move_added
abbrev d_Move_done : DenS := sSeq (sIf (dOrT (dNotT (dTru (dCallK 1 0 gP m_is_integer (dCons (dVar 1) (dNil)) dNil))) (dIsB (dBin ltI (dVar 1) (dC (.int 1))))) (sBad) (sNext)) (sSeq (sIf (dIsB (dBin eqP (dFld [2] "own_divisor" (dVar 0)) (dC (.int 1)))) (sRet (dMeth "added" 1 0 gk_Move_added_1 [(2, m_Move_added)] (dVar 0) (dCons (dVar 1) (dNil)) (dNil))) (sNext)) (sSeq (sIf (dIsB (dBin gtI (dVar 1) (dC (.int 100)))) (sBad) (sNext)) (sSeq (sSet 2 (dVar 0)) (sSeq (sFor (iRng1 (dCons (dBin subI (dVar 1) (dC (.int 1))) (dNil))) (gSet 3) (sSet 2 (dMeth "then" 1 0 gk_Move_then_1 [(2, m_Move_then)] (dVar 2) (dCons (dVar 0) (dNil)) (dNil)))) (sRet (dVar 2))))))
@[irreducible] def m_Move_done : Mir := runBody 4 d_Move_done
abbrev d_whole_above : DenS := sRet (dUn negD (dBin divZ (dUn negD (dProp [(0, m_Ratio_top)] (dVar 0))) (dProp [(0, m_Ratio_bottom)] (dVar 0))))
@[irreducible] def m_whole_above : Mir := runBody 1 d_whole_above
abbrev d_Move_counted : DenS := sSeq (sSet 2 (dIf (dIsB (dBin gtI (dProp [(0, m_Ratio_sign)] (dFld [2] "own_plus" (dVar 0))) (dC (.int 0)))) (dFld [1, 2] "own_high" (dVar 0)) (dFld [1, 2] "own_low" (dVar 0)))) (sRet (dTup (dCons (dVar 2) (dCons (dBin addD (dC (.int 1)) (dCallK 1 0 gP m_whole_above (dCons (dMeth "over" 1 0 gk_Ratio_over_1 [(0, m_Ratio_over)] (dTwo subU (dVar 2) (dVar 1)) (dCons (dFld [2] "own_plus" (dVar 0)) (dNil)) (dNil)) (dNil)) dNil)) (dNil)))))
@[irreducible] def m_Move_counted : Mir := runBody 3 d_Move_counted
def fuel_Move_tends : DL.Env → Store → Nat := fun _ _ => 2000
abbrev d_Move_tends : DenS := sSeq (sSet 2 (dCMeth 0 1 0 gk_Ratio_of_1 m_Ratio_of (dC (.cls 0)) (dCons (dVar 1) (dNil)) (dNil))) (sSeq (sIf (dIsB (dTwo eqR (dMeth "at" 1 0 gk_Move_at_1 [(2, m_Move_at)] (dVar 0) (dCons (dVar 2) (dNil)) (dNil)) (dVar 2))) (sRet (dTup (dCons (dVar 2) (dCons (dC (.int 0)) (dNil))))) (sNext)) (sSeq (sSet 2 (dMeth "at" 1 0 gk_Move_at_1 [(2, m_Move_at)] (dVar 0) (dCons (dVar 2) (dNil)) (dNil))) (sSeq (sIf (dIsB (dTwo eqR (dMeth "at" 1 0 gk_Move_at_1 [(2, m_Move_at)] (dVar 0) (dCons (dVar 2) (dNil)) (dNil)) (dVar 2))) (sRet (dTup (dCons (dVar 2) (dCons (dC (.int 1)) (dNil))))) (sNext)) (sSeq (sIf (dIsB (dTwo eqR (dFld [2] "own_divisor" (dVar 0)) (dC (.int 1)))) (sRet (dMeth "counted" 1 0 gk_Move_counted_1 [(2, m_Move_counted)] (dVar 0) (dCons (dVar 2) (dNil)) (dNil))) (sNext)) (sSeq (sSet 3 (dMeth "over" 1 0 gk_Ratio_over_1 [(0, m_Ratio_over)] (dFld [2] "own_plus" (dVar 0)) (dCons (dBin subI (dFld [2] "own_divisor" (dVar 0)) (dC (.int 1))) (dNil)) (dNil))) (sSeq (sPar2 4 5 (dCons (dMeth "held" 1 0 gk_Move_held_1 [(2, m_Move_held)] (dVar 0) (dCons (dVar 3) (dNil)) (dNil)) (dCons (dC (.int 1)) (dNil)))) (sSeq (sIf (dIsB (dTwo eqR (dVar 4) (dVar 3))) (sRet (dTup (dCons (dVar 4) (dCons (dC .non) (dNil))))) (sNext)) (sSeq (sWhile fuel_Move_tends (dIsB (dTwo neR (dVar 2) (dVar 4))) (sSeq (sSet 2 (dMeth "at" 1 0 gk_Move_at_1 [(2, m_Move_at)] (dVar 0) (dCons (dVar 2) (dNil)) (dNil))) (sAugA 5 (dC (.int 1))))) (sRet (dTup (dCons (dVar 4) (dCons (dVar 5) (dNil)))))))))))))
@[irreducible] def m_Move_tends : Mir := runBody 6 d_Move_tends
abbrev d__law_moves_right : DenS := sSeq (sIf (dOrT (dIsB (dTwo neU (dMeth "at" 0 1 gk_Move_at_0_number [(2, m_Move_at)] (dVar 0) (dNil) (dCons (dVar 4) (dNil))) (dMeth "at" 1 0 gk_Move_at_1 [(2, m_Move_at)] (dVar 0) (dCons (dVar 4) (dNil)) (dNil)))) (dIsB (dTwo neU (dMeth "then" 0 1 gk_Move_then_0_other [(2, m_Move_then)] (dVar 0) (dNil) (dCons (dVar 2) (dNil))) (dMeth "then" 1 0 gk_Move_then_1 [(2, m_Move_then)] (dVar 0) (dCons (dVar 2) (dNil)) (dNil))))) (sRet (dC (.bl false))) (sNext)) (sSeq (sIf (dOrT (dIsB (dTwo neU (dMeth "back" 0 2 gk_Move_back_0_within_cut [(2, m_Move_back)] (dVar 0) (dNil) (dCons (dVar 1) (dCons (dVar 3) (dNil)))) (dMeth "back" 2 0 gk_Move_back_2 [(2, m_Move_back)] (dVar 0) (dCons (dVar 3) (dCons (dVar 1) (dNil))) (dNil)))) (dIsB (dTwo neU (dMeth "form" 0 1 gk_Move_form_0_within [(2, m_Move_form)] (dVar 0) (dNil) (dCons (dVar 1) (dNil))) (dMeth "form" 1 0 gk_Move_form_1 [(2, m_Move_form)] (dVar 0) (dCons (dVar 1) (dNil)) (dNil))))) (sRet (dC (.bl false))) (sNext)) (sSeq (sIf (dOrT (dIsB (dTwo neU (dMeth "upper_image" 0 1 gk_Move_upper_image_0_cut [(2, m_Move_upper_image)] (dVar 0) (dNil) (dCons (dVar 3) (dNil))) (dMeth "upper_image" 1 0 gk_Move_upper_image_1 [(2, m_Move_upper_image)] (dVar 0) (dCons (dVar 3) (dNil)) (dNil)))) (dIsB (dTwo neU (dMeth "lower_image" 0 1 gk_Move_lower_image_0_cut [(2, m_Move_lower_image)] (dVar 0) (dNil) (dCons (dVar 3) (dNil))) (dMeth "lower_image" 1 0 gk_Move_lower_image_1 [(2, m_Move_lower_image)] (dVar 0) (dCons (dVar 3) (dNil)) (dNil))))) (sRet (dC (.bl false))) (sNext)) (sSeq (sIf (dOrT (dIsB (dTwo neU (dMeth "upper_limit" 0 1 gk_Move_upper_limit_0_cut [(2, m_Move_upper_limit)] (dVar 0) (dNil) (dCons (dVar 3) (dNil))) (dMeth "upper_limit" 1 0 gk_Move_upper_limit_1 [(2, m_Move_upper_limit)] (dVar 0) (dCons (dVar 3) (dNil)) (dNil)))) (dIsB (dTwo neU (dMeth "lower_limit" 0 1 gk_Move_lower_limit_0_cut [(2, m_Move_lower_limit)] (dVar 0) (dNil) (dCons (dVar 3) (dNil))) (dMeth "lower_limit" 1 0 gk_Move_lower_limit_1 [(2, m_Move_lower_limit)] (dVar 0) (dCons (dVar 3) (dNil)) (dNil))))) (sRet (dC (.bl false))) (sNext)) (sSeq (sIf (dIsB (dTwo neU (dMeth "is_alike" 0 2 gk_Move_is_alike_0_within_other [(2, m_Move_is_alike)] (dVar 0) (dNil) (dCons (dVar 1) (dCons (dVar 2) (dNil)))) (dMeth "is_alike" 2 0 gk_Move_is_alike_2 [(2, m_Move_is_alike)] (dVar 0) (dCons (dVar 2) (dCons (dVar 1) (dNil))) (dNil)))) (sRet (dC (.bl false))) (sNext)) (sSeq (sIf (dOrT (dIsB (dTwo neU (dMeth "done" 0 1 gk_Move_done_0_times [(2, m_Move_done)] (dVar 0) (dNil) (dCons (dC (.int 3)) (dNil))) (dMeth "done" 1 0 gk_Move_done_1 [(2, m_Move_done)] (dVar 0) (dCons (dC (.int 3)) (dNil)) (dNil)))) (dIsB (dTwo neU (dMeth "tends" 0 1 gk_Move_tends_0_number [(2, m_Move_tends)] (dVar 0) (dNil) (dCons (dVar 4) (dNil))) (dMeth "tends" 1 0 gk_Move_tends_1 [(2, m_Move_tends)] (dVar 0) (dCons (dVar 4) (dNil)) (dNil))))) (sRet (dC (.bl false))) (sNext)) (sRet (dAndV (dTwo eqU (dVar 0) (dMeth "done" 1 0 gk_Move_done_1 [(2, m_Move_done)] (dVar 0) (dCons (dC (.int 1)) (dNil)) (dNil))) (dTwo neU (dVar 0) (dTup (dCons (dProp [(2, m_Move_divisor)] (dVar 0)) (dCons (dProp [(2, m_Move_plus)] (dVar 0)) (dCons (dProp [(1, m_Range_low), (2, m_Move_low)] (dVar 0)) (dCons (dProp [(1, m_Range_high), (2, m_Move_high)] (dVar 0)) (dNil))))))))))))))
@[irreducible] def m__law_moves_right : Mir := runBody 5 d__law_moves_right
abbrev d_Move_setting : DenS := sSeq (sDrop (dCallK 1 0 gP m_require_number (dCons (dVar 1) (dNil)) dNil)) (sRet (dMakeL 0 2 4 0 gk_Move___init___4 m_Move___init__ (dCons (dC (.int 1)) (dCons (dC (.int 0)) (dCons (dVar 1) (dCons (dVar 1) (dNil))))) (dNil)))
@[irreducible] def m_Move_setting : Mir := runBody 2 d_Move_setting
abbrev d_Move_staying : DenS := sSeq (sDrop (dCallK 1 0 gP m_require_range (dCons (dVar 1) (dNil)) dNil)) (sRet (dMakeL 0 2 4 0 gk_Move___init___4 m_Move___init__ (dCons (dC (.int 1)) (dCons (dC (.int 0)) (dCons (dProp [(1, m_Range_low), (2, m_Move_low)] (dVar 1)) (dCons (dProp [(1, m_Range_high), (2, m_Move_high)] (dVar 1)) (dNil))))) (dNil)))
@[irreducible] def m_Move_staying : Mir := runBody 2 d_Move_staying
abbrev d_Move_adding : DenS := sSeq (sDrop (dCallK 1 0 gP m_require_number (dCons (dVar 1) (dNil)) dNil)) (sSeq (sDrop (dCallK 1 0 gP m_require_range (dCons (dVar 2) (dNil)) dNil)) (sRet (dMakeL 0 2 4 0 gk_Move___init___4 m_Move___init__ (dCons (dC (.int 1)) (dCons (dVar 1) (dCons (dProp [(1, m_Range_low), (2, m_Move_low)] (dVar 2)) (dCons (dProp [(1, m_Range_high), (2, m_Move_high)] (dVar 2)) (dNil))))) (dNil))))
@[irreducible] def m_Move_adding : Mir := runBody 3 d_Move_adding
abbrev d_Move_dividing : DenS := sSeq (sIf (dOrT (dNotT (dTru (dCallK 1 0 gP m_is_integer (dCons (dVar 1) (dNil)) dNil))) (dIsB (dBin ltI (dVar 1) (dC (.int 1))))) (sBad) (sNext)) (sSeq (sDrop (dCallK 1 0 gP m_require_range (dCons (dVar 2) (dNil)) dNil)) (sRet (dMakeL 0 2 4 0 gk_Move___init___4 m_Move___init__ (dCons (dVar 1) (dCons (dC (.int 0)) (dCons (dProp [(1, m_Range_low), (2, m_Move_low)] (dVar 2)) (dCons (dProp [(1, m_Range_high), (2, m_Move_high)] (dVar 2)) (dNil))))) (dNil))))
@[irreducible] def m_Move_dividing : Mir := runBody 3 d_Move_dividing
abbrev d__law_class_methods_right : DenS := sSeq (sIf (dOrT (dIsB (dTwo neU (dCMeth 2 0 1 gk_Move_setting_0_number m_Move_setting (dC (.cls 2)) (dNil) (dCons (dVar 2) (dNil))) (dCMeth 2 1 0 gk_Move_setting_1 m_Move_setting (dC (.cls 2)) (dCons (dVar 2) (dNil)) (dNil)))) (dIsB (dTwo neU (dCMeth 2 0 1 gk_Move_staying_0_within m_Move_staying (dC (.cls 2)) (dNil) (dCons (dVar 0) (dNil))) (dCMeth 2 1 0 gk_Move_staying_1 m_Move_staying (dC (.cls 2)) (dCons (dVar 0) (dNil)) (dNil))))) (sRet (dC (.bl false))) (sNext)) (sSeq (sIf (dIsB (dTwo neU (dCMeth 2 0 2 gk_Move_adding_0_within_number m_Move_adding (dC (.cls 2)) (dNil) (dCons (dVar 0) (dCons (dVar 2) (dNil)))) (dCMeth 2 2 0 gk_Move_adding_2 m_Move_adding (dC (.cls 2)) (dCons (dVar 2) (dCons (dVar 0) (dNil))) (dNil)))) (sRet (dC (.bl false))) (sNext)) (sRet (dTwo eqU (dCMeth 2 0 2 gk_Move_dividing_0_within_divisor m_Move_dividing (dC (.cls 2)) (dNil) (dCons (dVar 0) (dCons (dVar 1) (dNil)))) (dCMeth 2 2 0 gk_Move_dividing_2 m_Move_dividing (dC (.cls 2)) (dCons (dVar 1) (dCons (dVar 0) (dNil))) (dNil)))))
@[irreducible] def m__law_class_methods_right : Mir := runBody 3 d__law_class_methods_right
abbrev d__law_right : DenS := sSeq (sPar2 4 5 (dCons (dCallK 1 0 gP m__law_thing (dCons (dVar 0) (dNil)) dNil) (dCons (dCallK 1 0 gP m__law_thing (dCons (dVar 0) (dNil)) dNil) (dNil)))) (sSeq (sSet 1 (dLst (dCons (dTwo eqU (dCallK 2 0 gP m__law_draw (dCons (dVar 0) (dCons (dC (.int 2)) (dNil))) dNil) (dC (.int 1))) (dCons (dTwo eqU (dCallK 2 0 gP m__law_draw (dCons (dVar 0) (dCons (dC (.int 2)) (dNil))) dNil) (dC (.int 1))) (dNil))))) (sSeq (sSet 2 (dCallK 2 0 gP m__law_choice (dCons (dVar 0) (dCons (dLst (dCons (dC (.int 1)) (dCons (dC (.int 2)) (dCons (dUn negD (dC (.int 3))) (dCons (dBin powI (dC (.int 10)) (dC (.int 20))) (dNil)))))) (dNil))) dNil)) (sSeq (sIf (dNotT (dTru (dCallK 4 0 gP m__law_ratios_right (dCons (dVar 4) (dCons (dVar 5) (dCons (dBin subI (dCallK 2 0 gP m__law_draw (dCons (dVar 0) (dCons (dC (.int 100)) (dNil))) dNil) (dC (.int 50))) (dCons (dVar 2) (dNil))))) dNil))) (sRet (dC (.bl false))) (sNext)) (sSeq (sIf (dOrT (dNotT (dTru (dCallK 3 0 gP m__law_cuts_right (dCons (dVar 4) (dCons (dVar 5) (dCons (dVar 1) (dNil)))) dNil))) (dNotT (dTru (dCallK 3 0 gP m__law_ranges_right (dCons (dVar 4) (dCons (dVar 5) (dCons (dVar 1) (dNil)))) dNil)))) (sRet (dC (.bl false))) (sNext)) (sSeq (sPar3 6 7 8 (dCons (dBin addD (dC (.int 1)) (dCallK 2 0 gP m__law_draw (dCons (dVar 0) (dCons (dC (.int 99)) (dNil))) dNil)) (dCons (dVar 4) (dCons (dVar 5) (dNil))))) (sSeq (sIf (dTru (dMeth "is_below" 1 0 gk_Ratio_is_below_1 [(0, m_Ratio_is_below)] (dVar 5) (dCons (dVar 4) (dNil)) (dNil))) (sPar2 7 8 (dCons (dVar 5) (dCons (dVar 4) (dNil)))) (sNext)) (sSeq (sPar2 9 10 (dCons (dMake 2 0 4 gk_Move___init___0_high_low_plus_divisor m_Move___init__ (dNil) (dCons (dVar 8) (dCons (dVar 7) (dCons (dVar 5) (dCons (dVar 6) (dNil)))))) (dCons (dMake 1 2 0 gk_Range___init___2 m_Range___init__ (dCons (dVar 7) (dCons (dVar 8) (dNil))) (dNil)) (dNil)))) (sSeq (sIf (dOrT (dIsB (dTwo neU (dVar 9) (dMake 2 4 0 gk_Move___init___4 m_Move___init__ (dCons (dVar 6) (dCons (dVar 5) (dCons (dVar 7) (dCons (dVar 8) (dNil))))) (dNil)))) (dIsB (dTwo neU (dLst (dCons (dProp [(2, m_Move_divisor)] (dVar 9)) (dCons (dProp [(2, m_Move_plus)] (dVar 9)) (dNil)))) (dLst (dCons (dVar 6) (dCons (dVar 5) (dNil))))))) (sRet (dC (.bl false))) (sNext)) (sSeq (sIf (dIsB (dTwo neU (dLst (dCons (dProp [(1, m_Range_low), (2, m_Move_low)] (dVar 9)) (dCons (dProp [(1, m_Range_high), (2, m_Move_high)] (dVar 9)) (dNil)))) (dLst (dCons (dVar 7) (dCons (dVar 8) (dNil)))))) (sRet (dC (.bl false))) (sNext)) (sSeq (sPar2 11 12 (dCons (dMake 2 4 0 gk_Move___init___4 m_Move___init__ (dCons (dC (.int 2)) (dCons (dVar 4) (dCons (dVar 7) (dCons (dVar 8) (dNil))))) (dNil)) (dCons (dTup (dCons (dVar 5) (dCons (dBin ixD (dVar 1) (dC (.int 0))) (dNil)))) (dNil)))) (sSeq (sFor (iRng1 (dCons (dC (.int 2)) (dNil))) (gSet 3) (sIf (dNotT (dTru (dCallK 5 0 gP m__law_moves_right (dCons (dVar 9) (dCons (dVar 10) (dCons (dVar 11) (dCons (dVar 12) (dCons (dCallK 1 0 gP m__law_thing (dCons (dVar 0) (dNil)) dNil) (dNil)))))) dNil))) (sRet (dC (.bl false))) (sNext))) (sRet (dCallK 3 0 gP m__law_class_methods_right (dCons (dVar 10) (dCons (dVar 6) (dCons (dVar 4) (dNil)))) dNil)))))))))))))
@[irreducible] def m__law_right : Mir := runBody 13 d__law_right
abbrev d__law_rng : DenS := sSeq (sSet 2 (dIf (dIsB (dBin ltI (dVar 1) (dBlt lenB (dCons (dVar 0) (dNil))))) (dBlt absB (dCons (dBin ixD (dVar 0) (dVar 1)) (dNil))) (dBin addD (dBin mulD (dC (.int 11)) (dVar 1)) (dC (.int 4))))) (sRet (dLstM (dCons (dBlt max2B (dCons (dC (.int 0)) (dCons (dBin subI (dVar 2) (dBin powI (dC (.int 10)) (dC (.int 18)))) (dNil)))) (dCons (dBin addD (dBin modI (dBlt intB (dCons (dBin addD (dBin addD (dBin mulD (dBin modI (dBlt intB (dCons (dVar 2) (dNil))) (dC (.int 2147483543))) (dC (.int 39373))) (dBin mulD (dC (.int 52361)) (dVar 1))) (dC (.int 29))) (dNil))) (dC (.int 2147483629))) (dC (.int 1))) (dNil)))))
@[irreducible] def m__law_rng : Mir := runBody 3 d__law_rng
abbrev d_law : DenS := sRet (dBlt allB (dCons (dLc [1] (iRng1 (dCons (dBlt max2B (dCons (dC (.int 1)) (dCons (dBlt min2B (dCons (dC (.int 4)) (dCons (dBlt lenB (dCons (dVar 0) (dNil))) (dNil)))) (dNil)))) (dNil))) (vName 1) tYesD (dCallK 1 0 gP m__law_right (dCons (dCallK 2 0 gP m__law_rng (dCons (dVar 0) (dCons (dVar 1) (dNil))) dNil) (dNil)) dNil)) (dNil)))
@[irreducible] def m_law : Mir := runBody 2 d_law
end K18

set_option Elab.async false
set_option linter.all false
set_option autoImplicit false
set_option maxRecDepth 100000
set_option maxHeartbeats 4000000
/-! k18: == of two Ratios -/
namespace K18
open PySem L2 DL
theorem eq_ii (a b : Int) (μ : Store) : eqP (.int a) (.int b) μ = some (.bl (decide (a = b))) := by
  have e : PyData.eqv (.int a) (.int b) = decide (a = b) := by
    by_cases h : a = b <;> simp [PyData.eqv, h]
  show (if SeqAt.shaped (.int a) = true ∧ SeqAt.shaped (.int b) = true then some (D.bl (PyData.eqv (.int a) (.int b))) else none) = _
  rw [e]
  rfl
theorem is00 (fs : List (Str × D)) (μ : Store) : isD [0, 1, 2] [] tabk [.ins 0 fs, .cls 0] μ = some (.bl true) := by kernel_rfl
theorem leafR : LeafQ 0 m_Ratio___eq__ qR := by
  refine ⟨fun fs gs b μ h => ?_, fun fs b h => ?_⟩
  · unfold qR at h
    split at h
    · rename_i x a y b' z c u d
      split at h
      · rename_i hc
        obtain ⟨rfl, rfl, rfl, rfl⟩ := hc
        cases h
        have f : ∀ (a b : Int) (s : DL.Env) (i : Nat) (h : s[i]? = some (some (.ins 0 [("own_top", .int a), ("own_bottom", .int b)]))), dFld [0] "own_top" (dVar i) s μ = .ok (.int a) μ ∧ dFld [0] "own_bottom" (dVar i) s μ = .ok (.int b) μ := fun a b s i h => by
          refine ⟨?_, ?_⟩
          · simp only [dFld, ev_var h, Res.bind, fldD, insD]
            rfl
          · simp only [dFld, ev_var h, Res.bind, fldD, insD]
            rfl
        unfold m_Ratio___eq__
        refine run_rt (sv_ret (ev_andV (ev_blt (ev_cons (ev_var rfl) (ev_cons ev_c ev_nil)) (is00 _ μ)) ?_))
        obtain ⟨f1, f2⟩ := f a b' (startD 2 [.ins 0 [("own_top", .int a), ("own_bottom", .int b')], .ins 0 [("own_top", .int c), ("own_bottom", .int d)]]) 0 rfl
        obtain ⟨g1, g2⟩ := f c d (startD 2 [.ins 0 [("own_top", .int a), ("own_bottom", .int b')], .ins 0 [("own_top", .int c), ("own_bottom", .int d)]]) 1 rfl
        have e1 := ev_bin f1 g1 (eq_ii a c μ)
        have e2 := ev_bin f2 g2 (eq_ii b' d μ)
        unfold dAndV
        rw [e1]
        simp only [Res.bind]
        by_cases h : a = c
        · subst h
          rw [show decide (a = a) = true from decide_eq_true rfl]
          simp only [if_true]
          rw [e2]
          simp
          rfl
        · simp [h]
      · cases h
    · cases h
  · unfold qR at h
    split at h
    · split at h
      · simp_all
      · cases h
    · cases h
end K18

set_option Elab.async false
set_option linter.all false
set_option autoImplicit false
set_option maxRecDepth 100000
set_option maxHeartbeats 4000000
/-! k18: the derivations -/
namespace K18
open PySem L2 DL
structure Txt (K : PySem.W.Frag) (mg : Str → Option Value) (base : Heap) (cl : Nat → Addr) : Prop where
  nb : ∀ i, i < 13 → mg (nbs.getD i "") = none
  gc_Ratio : mg "Ratio" = some (.ref (cl 0))
  cl_Ratio : Cls K (cl 0)
  mk_Ratio : Mk K (cl 0) (He.ma K (cl 0) "__init__")
  nf_Ratio : ∀ kd, hasK kds kd = true → PySem.W.notFirst K (cl 0) (kv cl kd) = true
  ne_Ratio : PySem.W.findIn K (.ref (cl 0)) "__ne__" = some (some (.builtin "object.__ne__"))
  mo_Ratio : PySem.W.mroIn K (cl 0) (.type "object") = some true
  gc_Range : mg "Range" = some (.ref (cl 1))
  cl_Range : Cls K (cl 1)
  mk_Range : Mk K (cl 1) (He.ma K (cl 1) "__init__")
  nf_Range : ∀ kd, hasK kds kd = true → PySem.W.notFirst K (cl 1) (kv cl kd) = true
  ne_Range : PySem.W.findIn K (.ref (cl 1)) "__ne__" = some (some (.builtin "object.__ne__"))
  mo_Range : PySem.W.mroIn K (cl 1) (.type "object") = some true
  gc_Move : mg "Move" = some (.ref (cl 2))
  cl_Move : Cls K (cl 2)
  mk_Move : Mk K (cl 2) (He.ma K (cl 2) "__init__")
  nf_Move : ∀ kd, hasK kds kd = true → PySem.W.notFirst K (cl 2) (kv cl kd) = true
  ne_Move : PySem.W.findIn K (.ref (cl 2)) "__ne__" = some (some (.builtin "object.__ne__"))
  mo_Move : PySem.W.mroIn K (cl 2) (.type "object") = some true
  cr_Move : ClX.CRead K (cl 2) (.type "type")
  cr_Ratio : ClX.CRead K (cl 0) (.type "type")
  gd__law_draw : mg "_law_draw" = some (.ref (He.ga K "_law_draw"))
  gd__law_plain : mg "_law_plain" = some (.ref (He.ga K "_law_plain"))
  gd__law_choice : mg "_law_choice" = some (.ref (He.ga K "_law_choice"))
  gd__law_fraction : mg "_law_fraction" = some (.ref (He.ga K "_law_fraction"))
  gd_is_integer : mg "is_integer" = some (.ref (He.ga K "is_integer"))
  gd_divisor_of : mg "divisor_of" = some (.ref (He.ga K "divisor_of"))
  gd__law_thing : mg "_law_thing" = some (.ref (He.ga K "_law_thing"))
  gd_is_number : mg "is_number" = some (.ref (He.ga K "is_number"))
  gd_require_number : mg "require_number" = some (.ref (He.ga K "require_number"))
  gd_is_less : mg "is_less" = some (.ref (He.ga K "is_less"))
  gd__law_ratios_right : mg "_law_ratios_right" = some (.ref (He.ga K "_law_ratios_right"))
  gd_is_cut : mg "is_cut" = some (.ref (He.ga K "is_cut"))
  gd_require_cut : mg "require_cut" = some (.ref (He.ga K "require_cut"))
  gd_is_beyond : mg "is_beyond" = some (.ref (He.ga K "is_beyond"))
  gd_is_above : mg "is_above" = some (.ref (He.ga K "is_above"))
  gd_is_first : mg "is_first" = some (.ref (He.ga K "is_first"))
  gd_is_ahead : mg "is_ahead" = some (.ref (He.ga K "is_ahead"))
  gd_is_stretch : mg "is_stretch" = some (.ref (He.ga K "is_stretch"))
  gd_require_stretch : mg "require_stretch" = some (.ref (He.ga K "require_stretch"))
  gd_mark_of : mg "mark_of" = some (.ref (He.ga K "mark_of"))
  gd_is_within : mg "is_within" = some (.ref (He.ga K "is_within"))
  gd__law_cuts_right : mg "_law_cuts_right" = some (.ref (He.ga K "_law_cuts_right"))
  gd_as_cut : mg "as_cut" = some (.ref (He.ga K "as_cut"))
  gd__law_ranges_right : mg "_law_ranges_right" = some (.ref (He.ga K "_law_ranges_right"))
  gd_extreme_of : mg "extreme_of" = some (.ref (He.ga K "extreme_of"))
  gd_require_move : mg "require_move" = some (.ref (He.ga K "require_move"))
  gd_require_range : mg "require_range" = some (.ref (He.ga K "require_range"))
  gd_whole_above : mg "whole_above" = some (.ref (He.ga K "whole_above"))
  gd__law_moves_right : mg "_law_moves_right" = some (.ref (He.ga K "_law_moves_right"))
  gd__law_class_methods_right : mg "_law_class_methods_right" = some (.ref (He.ga K "_law_class_methods_right"))
  gd__law_right : mg "_law_right" = some (.ref (He.ga K "_law_right"))
  gd__law_rng : mg "_law_rng" = some (.ref (He.ga K "_law_rng"))
  gd_law : mg "law" = some (.ref (He.ga K "law"))
  me_Ratio___eq__ : Meth K (cl 0) "__eq__" (He.ma K (cl 0) "__eq__")
  me_Range___eq__ : Meth K (cl 1) "__eq__" (He.ma K (cl 1) "__eq__")
  me_Move___eq__ : Meth K (cl 2) "__eq__" (He.ma K (cl 2) "__eq__")
  me_Ratio_is_below : Meth K (cl 0) "is_below" (He.ma K (cl 0) "is_below")
  me_Ratio_over : Meth K (cl 0) "over" (He.ma K (cl 0) "over")
  me_Ratio___str__ : Meth K (cl 0) "__str__" (He.ma K (cl 0) "__str__")
  me_Ratio___add__ : Meth K (cl 0) "__add__" (He.ma K (cl 0) "__add__")
  me_Range_outer : Meth K (cl 1) "outer" (He.ma K (cl 1) "outer")
  me_Range_is_inner : Meth K (cl 1) "is_inner" (He.ma K (cl 1) "is_inner")
  me_Range_fit : Meth K (cl 1) "fit" (He.ma K (cl 1) "fit")
  me_Range_has_stretch : Meth K (cl 1) "has_stretch" (He.ma K (cl 1) "has_stretch")
  me_Range___contains__ : Meth K (cl 1) "__contains__" (He.ma K (cl 1) "__contains__")
  me_Move_held : Meth K (cl 2) "held" (He.ma K (cl 2) "held")
  me_Move_free : Meth K (cl 2) "free" (He.ma K (cl 2) "free")
  me_Move_at : Meth K (cl 2) "at" (He.ma K (cl 2) "at")
  me_Ratio___mul__ : Meth K (cl 0) "__mul__" (He.ma K (cl 0) "__mul__")
  me_Move_then : Meth K (cl 2) "then" (He.ma K (cl 2) "then")
  me_Ratio___neg__ : Meth K (cl 0) "__neg__" (He.ma K (cl 0) "__neg__")
  me_Ratio___sub__ : Meth K (cl 0) "__sub__" (He.ma K (cl 0) "__sub__")
  me_Move_back : Meth K (cl 2) "back" (He.ma K (cl 2) "back")
  me_Move_form : Meth K (cl 2) "form" (He.ma K (cl 2) "form")
  me_Move_upper_image : Meth K (cl 2) "upper_image" (He.ma K (cl 2) "upper_image")
  me_Move_lower_image : Meth K (cl 2) "lower_image" (He.ma K (cl 2) "lower_image")
  me_Move_upper_limit : Meth K (cl 2) "upper_limit" (He.ma K (cl 2) "upper_limit")
  me_Move_lower_limit : Meth K (cl 2) "lower_limit" (He.ma K (cl 2) "lower_limit")
  me_Move_is_alike : Meth K (cl 2) "is_alike" (He.ma K (cl 2) "is_alike")
  me_Move_added : Meth K (cl 2) "added" (He.ma K (cl 2) "added")
  me_Move_done : Meth K (cl 2) "done" (He.ma K (cl 2) "done")
  me_Move_counted : Meth K (cl 2) "counted" (He.ma K (cl 2) "counted")
  me_Move_tends : Meth K (cl 2) "tends" (He.ma K (cl 2) "tends")
  pr_Ratio_top : PropOf K (cl 0) "top" (He.ma K (cl 0) "top") (He5.wf K (cl 0) "property" "top")
  pr_Ratio_bottom : PropOf K (cl 0) "bottom" (He.ma K (cl 0) "bottom") (He5.wf K (cl 0) "property" "bottom")
  pr_Ratio_sign : PropOf K (cl 0) "sign" (He.ma K (cl 0) "sign") (He5.wf K (cl 0) "property" "sign")
  pr_Range_low : PropOf K (cl 1) "low" (He.ma K (cl 1) "low") (He5.wf K (cl 1) "property" "low")
  pr_Move_low : PropOf K (cl 2) "low" (He.ma K (cl 2) "low") (He5.wf K (cl 2) "property" "low")
  pr_Range_high : PropOf K (cl 1) "high" (He.ma K (cl 1) "high") (He5.wf K (cl 1) "property" "high")
  pr_Move_high : PropOf K (cl 2) "high" (He.ma K (cl 2) "high") (He5.wf K (cl 2) "property" "high")
  pr_Move_divisor : PropOf K (cl 2) "divisor" (He.ma K (cl 2) "divisor") (He5.wf K (cl 2) "property" "divisor")
  pr_Move_plus : PropOf K (cl 2) "plus" (He.ma K (cl 2) "plus") (He5.wf K (cl 2) "property" "plus")
  cm_Ratio_of : ClX.CMet K (cl 0) (.type "type") "of" (He.ma K (cl 0) "of") (He5.wf K (cl 0) "classmethod" "of")
  cm_Ratio_least : ClX.CMet K (cl 0) (.type "type") "least" (He.ma K (cl 0) "least") (He5.wf K (cl 0) "classmethod" "least")
  cm_Ratio_greatest : ClX.CMet K (cl 0) (.type "type") "greatest" (He.ma K (cl 0) "greatest") (He5.wf K (cl 0) "classmethod" "greatest")
  cm_Move_setting : ClX.CMet K (cl 2) (.type "type") "setting" (He.ma K (cl 2) "setting") (He5.wf K (cl 2) "classmethod" "setting")
  cm_Move_staying : ClX.CMet K (cl 2) (.type "type") "staying" (He.ma K (cl 2) "staying") (He5.wf K (cl 2) "classmethod" "staying")
  cm_Move_adding : ClX.CMet K (cl 2) (.type "type") "adding" (He.ma K (cl 2) "adding") (He5.wf K (cl 2) "classmethod" "adding")
  cm_Move_dividing : ClX.CMet K (cl 2) (.type "type") "dividing" (He.ma K (cl 2) "dividing") (He5.wf K (cl 2) "classmethod" "dividing")
  fl_own_top : FldF K cl [0] "own_top"
  fl_own_bottom : FldF K cl [0] "own_bottom"
  fl_own_low : FldF K cl [1, 2] "own_low"
  fl_own_high : FldF K cl [1, 2] "own_high"
  fl_own_divisor : FldF K cl [2] "own_divisor"
  fl_own_plus : FldF K cl [2] "own_plus"
  k_MOST_TIMES : ∃ tk, mg "MOST_TIMES" = some (.int 100 tk)
  KF : KindF K cl [0, 1, 2] []
  TK : TabK K cl tabk
  bf_Add : BinF K (cl 0) .Add ["int"]
  bf_Sub : BinF K (cl 0) .Sub ["int"]
  bf_Mult : BinF K (cl 0) .Mult ["int"]
section
variable {X : Cx} {c : Nat → Addr} {W : WX} {k : Nat} {N : List Str} {sc : Scope}
theorem w_addU (C : Ct X W k N sc) (T : Txt X.K X.mg X.base c) (F : Df X.prog X.w X.K X.mg X.base c 6 "__add__" "Ratio.__add__" (st_Ratio___add__) [] (He.ma X.K (c 0) "__add__") ["self", "other"] m_Ratio___add__) (hk : 6 ≤ k := by decide) : OpW X c W (binaryOp .Add) addU :=
  OpW.or (OpW.of o_add) (ow_bin (op := .Add) (own_of T.cl_Ratio T.me_Ratio___add__ F rfl) T.bf_Add T.KF (C.room.mono hk) C.grd C.tk)
theorem w_subU (C : Ct X W k N sc) (T : Txt X.K X.mg X.base c) (F : Df X.prog X.w X.K X.mg X.base c 7 "__sub__" "Ratio.__sub__" (st_Ratio___sub__) [] (He.ma X.K (c 0) "__sub__") ["self", "other"] m_Ratio___sub__) (hk : 7 ≤ k := by decide) : OpW X c W (binaryOp .Sub) subU :=
  OpW.or (OpW.of o_subI) (ow_bin (op := .Sub) (own_of T.cl_Ratio T.me_Ratio___sub__ F rfl) T.bf_Sub T.KF (C.room.mono hk) C.grd C.tk)
theorem w_mulU (C : Ct X W k N sc) (T : Txt X.K X.mg X.base c) (F : Df X.prog X.w X.K X.mg X.base c 6 "__mul__" "Ratio.__mul__" (st_Ratio___mul__) [] (He.ma X.K (c 0) "__mul__") ["self", "other"] m_Ratio___mul__) (hk : 6 ≤ k := by decide) : OpW X c W (binaryOp .Mult) mulU :=
  OpW.or (OpW.of o_mul) (ow_bin (op := .Mult) (own_of T.cl_Ratio T.me_Ratio___mul__ F rfl) T.bf_Mult T.KF (C.room.mono hk) C.grd C.tk)
theorem w_negU (C : Ct X W k N sc) (T : Txt X.K X.mg X.base c) (F : Df X.prog X.w X.K X.mg X.base c 5 "__neg__" "Ratio.__neg__" (st_Ratio___neg__) [] (He.ma X.K (c 0) "__neg__") ["self"] m_Ratio___neg__) (hk : 5 ≤ k := by decide) : UnW X c W (unaryOp .USub) negU := ow_neg (own_of T.cl_Ratio T.me_Ratio___neg__ F rfl) (C.room.mono hk) C.grd C.tk
theorem w_eqR (C : Ct X W k N sc) (T : Txt X.K X.mg X.base c) (F1 : Df X.prog X.w X.K X.mg X.base c 2 "__eq__" "Ratio.__eq__" (st_Ratio___eq__) [] (He.ma X.K (c 0) "__eq__") ["self", "other"] m_Ratio___eq__) (hk : 5 ≤ k := by decide) : OpW X c W (compareOp .Eq) eqR := OpW.or (OpW.of (o_eqP C.room.units)) (w_cmp (ow_eq (own_of T.cl_Ratio T.me_Ratio___eq__ F1 rfl) T.nf_Ratio T.KF (C.room.mono (Nat.le_trans (by decide) hk)) C.grd C.tk) (.inl rfl))
theorem w_neR (C : Ct X W k N sc) (T : Txt X.K X.mg X.base c) (F1 : Df X.prog X.w X.K X.mg X.base c 2 "__eq__" "Ratio.__eq__" (st_Ratio___eq__) [] (He.ma X.K (c 0) "__eq__") ["self", "other"] m_Ratio___eq__) (hk : 5 ≤ k := by decide) : OpW X c W (compareOp .NotEq) neR := OpW.or (OpW.of (o_neP C.room.units)) (w_cmp (ow_ne (own_of T.cl_Ratio T.me_Ratio___eq__ F1 rfl) T.nf_Ratio T.ne_Ratio T.mo_Ratio T.KF (C.room.mono (Nat.le_trans (by decide) hk)) C.grd C.tk) (.inr rfl))
theorem w_eqT (C : Ct X W k N sc) (T : Txt X.K X.mg X.base c) (F1 : Df X.prog X.w X.K X.mg X.base c 2 "__eq__" "Ratio.__eq__" (st_Ratio___eq__) [] (He.ma X.K (c 0) "__eq__") ["self", "other"] m_Ratio___eq__) (hk : 5 ≤ k := by decide) : OpW X c W (compareOp .Eq) eqT := OpW.or (w_eqR C T F1 hk) (w_cmp (op := .Eq) (ow_deq (j := 2) false (own_of T.cl_Ratio T.me_Ratio___eq__ F1 rfl) leafR (T.nf_Ratio (.inl 0) (by decide)) C.tk (C.room.mono hk) C.grd) (.inl rfl))
theorem w_eqU (C : Ct X W k N sc) (T : Txt X.K X.mg X.base c) (F1 : Df X.prog X.w X.K X.mg X.base c 2 "__eq__" "Ratio.__eq__" (st_Ratio___eq__) [] (He.ma X.K (c 0) "__eq__") ["self", "other"] m_Ratio___eq__) (F2 : Df X.prog X.w X.K X.mg X.base c 7 "__eq__" "Range.__eq__" (st_Range___eq__) [] (He.ma X.K (c 1) "__eq__") ["self", "other"] m_Range___eq__) (F3 : Df X.prog X.w X.K X.mg X.base c 7 "__eq__" "Move.__eq__" (st_Move___eq__) [] (He.ma X.K (c 2) "__eq__") ["self", "other"] m_Move___eq__) (hk : 10 ≤ k := by decide) : OpW X c W (compareOp .Eq) eqU := OpW.or (w_eqT C T F1 (Nat.le_trans (by decide) hk)) (OpW.or (w_cmp (ow_eq (own_of T.cl_Range T.me_Range___eq__ F2 rfl) T.nf_Range T.KF (C.room.mono (Nat.le_trans (by decide) hk)) C.grd C.tk) (.inl rfl)) (w_cmp (ow_eq (own_of T.cl_Move T.me_Move___eq__ F3 rfl) T.nf_Move T.KF (C.room.mono (Nat.le_trans (by decide) hk)) C.grd C.tk) (.inl rfl)))
theorem w_neT (C : Ct X W k N sc) (T : Txt X.K X.mg X.base c) (F1 : Df X.prog X.w X.K X.mg X.base c 2 "__eq__" "Ratio.__eq__" (st_Ratio___eq__) [] (He.ma X.K (c 0) "__eq__") ["self", "other"] m_Ratio___eq__) (hk : 5 ≤ k := by decide) : OpW X c W (compareOp .NotEq) neT := OpW.or (w_neR C T F1 hk) (w_cmp (op := .NotEq) (ow_deq (j := 2) true (own_of T.cl_Ratio T.me_Ratio___eq__ F1 rfl) leafR (T.nf_Ratio (.inl 0) (by decide)) C.tk (C.room.mono hk) C.grd) (.inr rfl))
theorem w_neU (C : Ct X W k N sc) (T : Txt X.K X.mg X.base c) (F1 : Df X.prog X.w X.K X.mg X.base c 2 "__eq__" "Ratio.__eq__" (st_Ratio___eq__) [] (He.ma X.K (c 0) "__eq__") ["self", "other"] m_Ratio___eq__) (F2 : Df X.prog X.w X.K X.mg X.base c 7 "__eq__" "Range.__eq__" (st_Range___eq__) [] (He.ma X.K (c 1) "__eq__") ["self", "other"] m_Range___eq__) (F3 : Df X.prog X.w X.K X.mg X.base c 7 "__eq__" "Move.__eq__" (st_Move___eq__) [] (He.ma X.K (c 2) "__eq__") ["self", "other"] m_Move___eq__) (hk : 10 ≤ k := by decide) : OpW X c W (compareOp .NotEq) neU := OpW.or (w_neT C T F1 (Nat.le_trans (by decide) hk)) (OpW.or (w_cmp (ow_ne (own_of T.cl_Range T.me_Range___eq__ F2 rfl) T.nf_Range T.ne_Range T.mo_Range T.KF (C.room.mono (Nat.le_trans (by decide) hk)) C.grd C.tk) (.inr rfl)) (w_cmp (ow_ne (own_of T.cl_Move T.me_Move___eq__ F3 rfl) T.nf_Move T.ne_Move T.mo_Move T.KF (C.room.mono (Nat.le_trans (by decide) hk)) C.grd C.tk) (.inr rfl)))
end
theorem kb_Ratio___init___2 {K : PySem.W.Frag} {cl : Nat → Addr} {f : Addr} {fd : FuncData} (F : FunD K "__init__" "Ratio.__init__" (defArgs st_Ratio___init__) (defBody st_Ratio___init__) (defScope st_Ratio___init__) [V.int 1] [] f fd) : KB ⟨K, cl⟩ fd ["self", "top", "bottom"] [] 3 gk_Ratio___init___2 :=
  kb_d F (by simp) rfl (fun _ => .cons (.int 1) .nil) fun _ _ _ _ _ _ _ us ws its h1 h2 h3 => match us, ws, its, h1, h2, h3 with | [_, _, _], [], [_], _, _, _ => ⟨_, rfl, rfl⟩
theorem kb_Ratio___init___0_top_bottom {K : PySem.W.Frag} {cl : Nat → Addr} {f : Addr} {fd : FuncData} (F : FunD K "__init__" "Ratio.__init__" (defArgs st_Ratio___init__) (defBody st_Ratio___init__) (defScope st_Ratio___init__) [V.int 1] [] f fd) : KB ⟨K, cl⟩ fd ["self", "top", "bottom"] ["top", "bottom"] 1 gk_Ratio___init___0_top_bottom :=
  kb_d F (by simp) rfl (fun _ => .cons (.int 1) .nil) fun _ _ _ _ _ _ _ us ws its h1 h2 h3 => match us, ws, its, h1, h2, h3 with | [_], [_, _], [_], _, _, _ => ⟨_, rfl, rfl⟩
theorem kb_Ratio___init___0_bottom_top {K : PySem.W.Frag} {cl : Nat → Addr} {f : Addr} {fd : FuncData} (F : FunD K "__init__" "Ratio.__init__" (defArgs st_Ratio___init__) (defBody st_Ratio___init__) (defScope st_Ratio___init__) [V.int 1] [] f fd) : KB ⟨K, cl⟩ fd ["self", "top", "bottom"] ["bottom", "top"] 1 gk_Ratio___init___0_bottom_top :=
  kb_d F (by simp) rfl (fun _ => .cons (.int 1) .nil) fun _ _ _ _ _ _ _ us ws its h1 h2 h3 => match us, ws, its, h1, h2, h3 with | [_], [_, _], [_], _, _, _ => ⟨_, rfl, rfl⟩
theorem kb_Ratio___init___0_top {K : PySem.W.Frag} {cl : Nat → Addr} {f : Addr} {fd : FuncData} (F : FunD K "__init__" "Ratio.__init__" (defArgs st_Ratio___init__) (defBody st_Ratio___init__) (defScope st_Ratio___init__) [V.int 1] [] f fd) : KB ⟨K, cl⟩ fd ["self", "top", "bottom"] ["top"] 1 gk_Ratio___init___0_top :=
  kb_d F (by simp) rfl (fun _ => .cons (.int 1) .nil) fun _ _ _ _ _ _ _ us ws its h1 h2 h3 => match us, ws, its, h1, h2, h3 with | [_], [_], [_], _, _, _ => ⟨_, rfl, rfl⟩
theorem kb_Ratio___init___1 {K : PySem.W.Frag} {cl : Nat → Addr} {f : Addr} {fd : FuncData} (F : FunD K "__init__" "Ratio.__init__" (defArgs st_Ratio___init__) (defBody st_Ratio___init__) (defScope st_Ratio___init__) [V.int 1] [] f fd) : KB ⟨K, cl⟩ fd ["self", "top", "bottom"] [] 2 gk_Ratio___init___1 :=
  kb_d F (by simp) rfl (fun _ => .cons (.int 1) .nil) fun _ _ _ _ _ _ _ us ws its h1 h2 h3 => match us, ws, its, h1, h2, h3 with | [_, _], [], [_], _, _, _ => ⟨_, rfl, rfl⟩
theorem kb_Ratio_of_0_number {K : PySem.W.Frag} {cl : Nat → Addr} {f : Addr} {fd : FuncData} (F : FunD K "of" "Ratio.of" (defArgs st_Ratio_of) (defBody st_Ratio_of) (defScope st_Ratio_of) [] [] f fd) : KB ⟨K, cl⟩ fd ["cls", "number"] ["number"] 1 gk_Ratio_of_0_number :=
  kb_0 F rfl fun _ _ _ _ _ _ us ws h1 h2 => match us, ws, h1, h2 with | [_], [_], _, _ => rfl
theorem kb_is_number_0_value {K : PySem.W.Frag} {cl : Nat → Addr} {f : Addr} {fd : FuncData} (F : FunD K "is_number" "is_number" (defArgs st_is_number) (defBody st_is_number) (defScope st_is_number) [] [] f fd) : KB ⟨K, cl⟩ fd ["value"] ["value"] 0 gk_is_number_0_value :=
  kb_0 F rfl fun _ _ _ _ _ _ us ws h1 h2 => match us, ws, h1, h2 with | [], [_], _, _ => rfl
theorem kb_Ratio_of_1 {K : PySem.W.Frag} {cl : Nat → Addr} {f : Addr} {fd : FuncData} (F : FunD K "of" "Ratio.of" (defArgs st_Ratio_of) (defBody st_Ratio_of) (defScope st_Ratio_of) [] [] f fd) : KB ⟨K, cl⟩ fd ["cls", "number"] [] 2 gk_Ratio_of_1 :=
  kb_0 F rfl fun _ _ _ _ _ _ us ws h1 h2 => match us, ws, h1, h2 with | [_, _], [], _, _ => rfl
theorem kb_Ratio_is_below_0_other {K : PySem.W.Frag} {cl : Nat → Addr} {f : Addr} {fd : FuncData} (F : FunD K "is_below" "Ratio.is_below" (defArgs st_Ratio_is_below) (defBody st_Ratio_is_below) (defScope st_Ratio_is_below) [] [] f fd) : KB ⟨K, cl⟩ fd ["self", "other"] ["other"] 1 gk_Ratio_is_below_0_other :=
  kb_0 F rfl fun _ _ _ _ _ _ us ws h1 h2 => match us, ws, h1, h2 with | [_], [_], _, _ => rfl
theorem kb_Ratio_is_below_1 {K : PySem.W.Frag} {cl : Nat → Addr} {f : Addr} {fd : FuncData} (F : FunD K "is_below" "Ratio.is_below" (defArgs st_Ratio_is_below) (defBody st_Ratio_is_below) (defScope st_Ratio_is_below) [] [] f fd) : KB ⟨K, cl⟩ fd ["self", "other"] [] 2 gk_Ratio_is_below_1 :=
  kb_0 F rfl fun _ _ _ _ _ _ us ws h1 h2 => match us, ws, h1, h2 with | [_, _], [], _, _ => rfl
theorem kb_Ratio_over_0_other {K : PySem.W.Frag} {cl : Nat → Addr} {f : Addr} {fd : FuncData} (F : FunD K "over" "Ratio.over" (defArgs st_Ratio_over) (defBody st_Ratio_over) (defScope st_Ratio_over) [] [] f fd) : KB ⟨K, cl⟩ fd ["self", "other"] ["other"] 1 gk_Ratio_over_0_other :=
  kb_0 F rfl fun _ _ _ _ _ _ us ws h1 h2 => match us, ws, h1, h2 with | [_], [_], _, _ => rfl
theorem kb_Ratio_over_1 {K : PySem.W.Frag} {cl : Nat → Addr} {f : Addr} {fd : FuncData} (F : FunD K "over" "Ratio.over" (defArgs st_Ratio_over) (defBody st_Ratio_over) (defScope st_Ratio_over) [] [] f fd) : KB ⟨K, cl⟩ fd ["self", "other"] [] 2 gk_Ratio_over_1 :=
  kb_0 F rfl fun _ _ _ _ _ _ us ws h1 h2 => match us, ws, h1, h2 with | [_, _], [], _, _ => rfl
theorem kb_is_cut_0_value {K : PySem.W.Frag} {cl : Nat → Addr} {f : Addr} {fd : FuncData} (F : FunD K "is_cut" "is_cut" (defArgs st_is_cut) (defBody st_is_cut) (defScope st_is_cut) [] [] f fd) : KB ⟨K, cl⟩ fd ["value"] ["value"] 0 gk_is_cut_0_value :=
  kb_0 F rfl fun _ _ _ _ _ _ us ws h1 h2 => match us, ws, h1, h2 with | [], [_], _, _ => rfl
theorem kb_is_above_0_cut_number {K : PySem.W.Frag} {cl : Nat → Addr} {f : Addr} {fd : FuncData} (F : FunD K "is_above" "is_above" (defArgs st_is_above) (defBody st_is_above) (defScope st_is_above) [] [] f fd) : KB ⟨K, cl⟩ fd ["number", "cut"] ["cut", "number"] 0 gk_is_above_0_cut_number :=
  kb_0 F rfl fun _ _ _ _ _ _ us ws h1 h2 => match us, ws, h1, h2 with | [], [_, _], _, _ => rfl
theorem kb_is_ahead_0_other_one {K : PySem.W.Frag} {cl : Nat → Addr} {f : Addr} {fd : FuncData} (F : FunD K "is_ahead" "is_ahead" (defArgs st_is_ahead) (defBody st_is_ahead) (defScope st_is_ahead) [] [] f fd) : KB ⟨K, cl⟩ fd ["one", "other"] ["other", "one"] 0 gk_is_ahead_0_other_one :=
  kb_0 F rfl fun _ _ _ _ _ _ us ws h1 h2 => match us, ws, h1, h2 with | [], [_, _], _, _ => rfl
theorem kb_is_stretch_0_value {K : PySem.W.Frag} {cl : Nat → Addr} {f : Addr} {fd : FuncData} (F : FunD K "is_stretch" "is_stretch" (defArgs st_is_stretch) (defBody st_is_stretch) (defScope st_is_stretch) [] [] f fd) : KB ⟨K, cl⟩ fd ["value"] ["value"] 0 gk_is_stretch_0_value :=
  kb_0 F rfl fun _ _ _ _ _ _ us ws h1 h2 => match us, ws, h1, h2 with | [], [_], _, _ => rfl
theorem kb_mark_of_0_stretch {K : PySem.W.Frag} {cl : Nat → Addr} {f : Addr} {fd : FuncData} (F : FunD K "mark_of" "mark_of" (defArgs st_mark_of) (defBody st_mark_of) (defScope st_mark_of) [] [] f fd) : KB ⟨K, cl⟩ fd ["stretch"] ["stretch"] 0 gk_mark_of_0_stretch :=
  kb_0 F rfl fun _ _ _ _ _ _ us ws h1 h2 => match us, ws, h1, h2 with | [], [_], _, _ => rfl
theorem kb_is_within_0_stretch_number {K : PySem.W.Frag} {cl : Nat → Addr} {f : Addr} {fd : FuncData} (F : FunD K "is_within" "is_within" (defArgs st_is_within) (defBody st_is_within) (defScope st_is_within) [] [] f fd) : KB ⟨K, cl⟩ fd ["number", "stretch"] ["stretch", "number"] 0 gk_is_within_0_stretch_number :=
  kb_0 F rfl fun _ _ _ _ _ _ us ws h1 h2 => match us, ws, h1, h2 with | [], [_, _], _, _ => rfl
theorem kb_Range___init___0_high_low {K : PySem.W.Frag} {cl : Nat → Addr} {f : Addr} {fd : FuncData} (F : FunD K "__init__" "Range.__init__" (defArgs st_Range___init__) (defBody st_Range___init__) (defScope st_Range___init__) [] [] f fd) : KB ⟨K, cl⟩ fd ["self", "low", "high"] ["high", "low"] 1 gk_Range___init___0_high_low :=
  kb_0 F rfl fun _ _ _ _ _ _ us ws h1 h2 => match us, ws, h1, h2 with | [_], [_, _], _, _ => rfl
theorem kb_Range___init___2 {K : PySem.W.Frag} {cl : Nat → Addr} {f : Addr} {fd : FuncData} (F : FunD K "__init__" "Range.__init__" (defArgs st_Range___init__) (defBody st_Range___init__) (defScope st_Range___init__) [] [] f fd) : KB ⟨K, cl⟩ fd ["self", "low", "high"] [] 3 gk_Range___init___2 :=
  kb_0 F rfl fun _ _ _ _ _ _ us ws h1 h2 => match us, ws, h1, h2 with | [_, _, _], [], _, _ => rfl
theorem kb_Range_outer_0 {K : PySem.W.Frag} {cl : Nat → Addr} {f : Addr} {fd : FuncData} (F : FunD K "outer" "Range.outer" (defArgs st_Range_outer) (defBody st_Range_outer) (defScope st_Range_outer) [] [] f fd) : KB ⟨K, cl⟩ fd ["self"] [] 1 gk_Range_outer_0 :=
  kb_0 F rfl fun _ _ _ _ _ _ us ws h1 h2 => match us, ws, h1, h2 with | [_], [], _, _ => rfl
theorem kb_Range_is_inner_0_cut {K : PySem.W.Frag} {cl : Nat → Addr} {f : Addr} {fd : FuncData} (F : FunD K "is_inner" "Range.is_inner" (defArgs st_Range_is_inner) (defBody st_Range_is_inner) (defScope st_Range_is_inner) [] [] f fd) : KB ⟨K, cl⟩ fd ["self", "cut"] ["cut"] 1 gk_Range_is_inner_0_cut :=
  kb_0 F rfl fun _ _ _ _ _ _ us ws h1 h2 => match us, ws, h1, h2 with | [_], [_], _, _ => rfl
theorem kb_Range_is_inner_1 {K : PySem.W.Frag} {cl : Nat → Addr} {f : Addr} {fd : FuncData} (F : FunD K "is_inner" "Range.is_inner" (defArgs st_Range_is_inner) (defBody st_Range_is_inner) (defScope st_Range_is_inner) [] [] f fd) : KB ⟨K, cl⟩ fd ["self", "cut"] [] 2 gk_Range_is_inner_1 :=
  kb_0 F rfl fun _ _ _ _ _ _ us ws h1 h2 => match us, ws, h1, h2 with | [_, _], [], _, _ => rfl
theorem kb_Range_fit_0_cut {K : PySem.W.Frag} {cl : Nat → Addr} {f : Addr} {fd : FuncData} (F : FunD K "fit" "Range.fit" (defArgs st_Range_fit) (defBody st_Range_fit) (defScope st_Range_fit) [] [] f fd) : KB ⟨K, cl⟩ fd ["self", "cut"] ["cut"] 1 gk_Range_fit_0_cut :=
  kb_0 F rfl fun _ _ _ _ _ _ us ws h1 h2 => match us, ws, h1, h2 with | [_], [_], _, _ => rfl
theorem kb_Range_fit_1 {K : PySem.W.Frag} {cl : Nat → Addr} {f : Addr} {fd : FuncData} (F : FunD K "fit" "Range.fit" (defArgs st_Range_fit) (defBody st_Range_fit) (defScope st_Range_fit) [] [] f fd) : KB ⟨K, cl⟩ fd ["self", "cut"] [] 2 gk_Range_fit_1 :=
  kb_0 F rfl fun _ _ _ _ _ _ us ws h1 h2 => match us, ws, h1, h2 with | [_, _], [], _, _ => rfl
theorem kb_Range_has_stretch_0_value {K : PySem.W.Frag} {cl : Nat → Addr} {f : Addr} {fd : FuncData} (F : FunD K "has_stretch" "Range.has_stretch" (defArgs st_Range_has_stretch) (defBody st_Range_has_stretch) (defScope st_Range_has_stretch) [] [] f fd) : KB ⟨K, cl⟩ fd ["self", "value"] ["value"] 1 gk_Range_has_stretch_0_value :=
  kb_0 F rfl fun _ _ _ _ _ _ us ws h1 h2 => match us, ws, h1, h2 with | [_], [_], _, _ => rfl
theorem kb_Move___init___0_high_low_plus_divisor {K : PySem.W.Frag} {cl : Nat → Addr} {f : Addr} {fd : FuncData} (F : FunD K "__init__" "Move.__init__" (defArgs st_Move___init__) (defBody st_Move___init__) (defScope st_Move___init__) [] [] f fd) : KB ⟨K, cl⟩ fd ["self", "divisor", "plus", "low", "high"] ["high", "low", "plus", "divisor"] 1 gk_Move___init___0_high_low_plus_divisor :=
  kb_0 F rfl fun _ _ _ _ _ _ us ws h1 h2 => match us, ws, h1, h2 with | [_], [_, _, _, _], _, _ => rfl
theorem kb_Move___init___4 {K : PySem.W.Frag} {cl : Nat → Addr} {f : Addr} {fd : FuncData} (F : FunD K "__init__" "Move.__init__" (defArgs st_Move___init__) (defBody st_Move___init__) (defScope st_Move___init__) [] [] f fd) : KB ⟨K, cl⟩ fd ["self", "divisor", "plus", "low", "high"] [] 5 gk_Move___init___4 :=
  kb_0 F rfl fun _ _ _ _ _ _ us ws h1 h2 => match us, ws, h1, h2 with | [_, _, _, _, _], [], _, _ => rfl
theorem kb_Move_held_1 {K : PySem.W.Frag} {cl : Nat → Addr} {f : Addr} {fd : FuncData} (F : FunD K "held" "Move.held" (defArgs st_Move_held) (defBody st_Move_held) (defScope st_Move_held) [] [] f fd) : KB ⟨K, cl⟩ fd ["self", "number"] [] 2 gk_Move_held_1 :=
  kb_0 F rfl fun _ _ _ _ _ _ us ws h1 h2 => match us, ws, h1, h2 with | [_, _], [], _, _ => rfl
theorem kb_Move_free_1 {K : PySem.W.Frag} {cl : Nat → Addr} {f : Addr} {fd : FuncData} (F : FunD K "free" "Move.free" (defArgs st_Move_free) (defBody st_Move_free) (defScope st_Move_free) [] [] f fd) : KB ⟨K, cl⟩ fd ["self", "number"] [] 2 gk_Move_free_1 :=
  kb_0 F rfl fun _ _ _ _ _ _ us ws h1 h2 => match us, ws, h1, h2 with | [_, _], [], _, _ => rfl
theorem kb_Move_at_0_number {K : PySem.W.Frag} {cl : Nat → Addr} {f : Addr} {fd : FuncData} (F : FunD K "at" "Move.at" (defArgs st_Move_at) (defBody st_Move_at) (defScope st_Move_at) [] [] f fd) : KB ⟨K, cl⟩ fd ["self", "number"] ["number"] 1 gk_Move_at_0_number :=
  kb_0 F rfl fun _ _ _ _ _ _ us ws h1 h2 => match us, ws, h1, h2 with | [_], [_], _, _ => rfl
theorem kb_Move_at_1 {K : PySem.W.Frag} {cl : Nat → Addr} {f : Addr} {fd : FuncData} (F : FunD K "at" "Move.at" (defArgs st_Move_at) (defBody st_Move_at) (defScope st_Move_at) [] [] f fd) : KB ⟨K, cl⟩ fd ["self", "number"] [] 2 gk_Move_at_1 :=
  kb_0 F rfl fun _ _ _ _ _ _ us ws h1 h2 => match us, ws, h1, h2 with | [_, _], [], _, _ => rfl
theorem kb_Move_then_0_other {K : PySem.W.Frag} {cl : Nat → Addr} {f : Addr} {fd : FuncData} (F : FunD K "then" "Move.then" (defArgs st_Move_then) (defBody st_Move_then) (defScope st_Move_then) [] [] f fd) : KB ⟨K, cl⟩ fd ["self", "other"] ["other"] 1 gk_Move_then_0_other :=
  kb_0 F rfl fun _ _ _ _ _ _ us ws h1 h2 => match us, ws, h1, h2 with | [_], [_], _, _ => rfl
theorem kb_Move_then_1 {K : PySem.W.Frag} {cl : Nat → Addr} {f : Addr} {fd : FuncData} (F : FunD K "then" "Move.then" (defArgs st_Move_then) (defBody st_Move_then) (defScope st_Move_then) [] [] f fd) : KB ⟨K, cl⟩ fd ["self", "other"] [] 2 gk_Move_then_1 :=
  kb_0 F rfl fun _ _ _ _ _ _ us ws h1 h2 => match us, ws, h1, h2 with | [_, _], [], _, _ => rfl
theorem kb_Move_back_0_within_cut {K : PySem.W.Frag} {cl : Nat → Addr} {f : Addr} {fd : FuncData} (F : FunD K "back" "Move.back" (defArgs st_Move_back) (defBody st_Move_back) (defScope st_Move_back) [] [] f fd) : KB ⟨K, cl⟩ fd ["self", "cut", "within"] ["within", "cut"] 1 gk_Move_back_0_within_cut :=
  kb_0 F rfl fun _ _ _ _ _ _ us ws h1 h2 => match us, ws, h1, h2 with | [_], [_, _], _, _ => rfl
theorem kb_Move_back_2 {K : PySem.W.Frag} {cl : Nat → Addr} {f : Addr} {fd : FuncData} (F : FunD K "back" "Move.back" (defArgs st_Move_back) (defBody st_Move_back) (defScope st_Move_back) [] [] f fd) : KB ⟨K, cl⟩ fd ["self", "cut", "within"] [] 3 gk_Move_back_2 :=
  kb_0 F rfl fun _ _ _ _ _ _ us ws h1 h2 => match us, ws, h1, h2 with | [_, _, _], [], _, _ => rfl
theorem kb_Move_form_0_within {K : PySem.W.Frag} {cl : Nat → Addr} {f : Addr} {fd : FuncData} (F : FunD K "form" "Move.form" (defArgs st_Move_form) (defBody st_Move_form) (defScope st_Move_form) [] [] f fd) : KB ⟨K, cl⟩ fd ["self", "within"] ["within"] 1 gk_Move_form_0_within :=
  kb_0 F rfl fun _ _ _ _ _ _ us ws h1 h2 => match us, ws, h1, h2 with | [_], [_], _, _ => rfl
theorem kb_Move_form_1 {K : PySem.W.Frag} {cl : Nat → Addr} {f : Addr} {fd : FuncData} (F : FunD K "form" "Move.form" (defArgs st_Move_form) (defBody st_Move_form) (defScope st_Move_form) [] [] f fd) : KB ⟨K, cl⟩ fd ["self", "within"] [] 2 gk_Move_form_1 :=
  kb_0 F rfl fun _ _ _ _ _ _ us ws h1 h2 => match us, ws, h1, h2 with | [_, _], [], _, _ => rfl
theorem kb_Move_upper_image_0_cut {K : PySem.W.Frag} {cl : Nat → Addr} {f : Addr} {fd : FuncData} (F : FunD K "upper_image" "Move.upper_image" (defArgs st_Move_upper_image) (defBody st_Move_upper_image) (defScope st_Move_upper_image) [] [] f fd) : KB ⟨K, cl⟩ fd ["self", "cut"] ["cut"] 1 gk_Move_upper_image_0_cut :=
  kb_0 F rfl fun _ _ _ _ _ _ us ws h1 h2 => match us, ws, h1, h2 with | [_], [_], _, _ => rfl
theorem kb_Move_upper_image_1 {K : PySem.W.Frag} {cl : Nat → Addr} {f : Addr} {fd : FuncData} (F : FunD K "upper_image" "Move.upper_image" (defArgs st_Move_upper_image) (defBody st_Move_upper_image) (defScope st_Move_upper_image) [] [] f fd) : KB ⟨K, cl⟩ fd ["self", "cut"] [] 2 gk_Move_upper_image_1 :=
  kb_0 F rfl fun _ _ _ _ _ _ us ws h1 h2 => match us, ws, h1, h2 with | [_, _], [], _, _ => rfl
theorem kb_Move_lower_image_0_cut {K : PySem.W.Frag} {cl : Nat → Addr} {f : Addr} {fd : FuncData} (F : FunD K "lower_image" "Move.lower_image" (defArgs st_Move_lower_image) (defBody st_Move_lower_image) (defScope st_Move_lower_image) [] [] f fd) : KB ⟨K, cl⟩ fd ["self", "cut"] ["cut"] 1 gk_Move_lower_image_0_cut :=
  kb_0 F rfl fun _ _ _ _ _ _ us ws h1 h2 => match us, ws, h1, h2 with | [_], [_], _, _ => rfl
theorem kb_Move_lower_image_1 {K : PySem.W.Frag} {cl : Nat → Addr} {f : Addr} {fd : FuncData} (F : FunD K "lower_image" "Move.lower_image" (defArgs st_Move_lower_image) (defBody st_Move_lower_image) (defScope st_Move_lower_image) [] [] f fd) : KB ⟨K, cl⟩ fd ["self", "cut"] [] 2 gk_Move_lower_image_1 :=
  kb_0 F rfl fun _ _ _ _ _ _ us ws h1 h2 => match us, ws, h1, h2 with | [_, _], [], _, _ => rfl
theorem kb_Move_upper_limit_0_cut {K : PySem.W.Frag} {cl : Nat → Addr} {f : Addr} {fd : FuncData} (F : FunD K "upper_limit" "Move.upper_limit" (defArgs st_Move_upper_limit) (defBody st_Move_upper_limit) (defScope st_Move_upper_limit) [] [] f fd) : KB ⟨K, cl⟩ fd ["self", "cut"] ["cut"] 1 gk_Move_upper_limit_0_cut :=
  kb_0 F rfl fun _ _ _ _ _ _ us ws h1 h2 => match us, ws, h1, h2 with | [_], [_], _, _ => rfl
theorem kb_Move_upper_limit_1 {K : PySem.W.Frag} {cl : Nat → Addr} {f : Addr} {fd : FuncData} (F : FunD K "upper_limit" "Move.upper_limit" (defArgs st_Move_upper_limit) (defBody st_Move_upper_limit) (defScope st_Move_upper_limit) [] [] f fd) : KB ⟨K, cl⟩ fd ["self", "cut"] [] 2 gk_Move_upper_limit_1 :=
  kb_0 F rfl fun _ _ _ _ _ _ us ws h1 h2 => match us, ws, h1, h2 with | [_, _], [], _, _ => rfl
theorem kb_Move_lower_limit_0_cut {K : PySem.W.Frag} {cl : Nat → Addr} {f : Addr} {fd : FuncData} (F : FunD K "lower_limit" "Move.lower_limit" (defArgs st_Move_lower_limit) (defBody st_Move_lower_limit) (defScope st_Move_lower_limit) [] [] f fd) : KB ⟨K, cl⟩ fd ["self", "cut"] ["cut"] 1 gk_Move_lower_limit_0_cut :=
  kb_0 F rfl fun _ _ _ _ _ _ us ws h1 h2 => match us, ws, h1, h2 with | [_], [_], _, _ => rfl
theorem kb_Move_lower_limit_1 {K : PySem.W.Frag} {cl : Nat → Addr} {f : Addr} {fd : FuncData} (F : FunD K "lower_limit" "Move.lower_limit" (defArgs st_Move_lower_limit) (defBody st_Move_lower_limit) (defScope st_Move_lower_limit) [] [] f fd) : KB ⟨K, cl⟩ fd ["self", "cut"] [] 2 gk_Move_lower_limit_1 :=
  kb_0 F rfl fun _ _ _ _ _ _ us ws h1 h2 => match us, ws, h1, h2 with | [_, _], [], _, _ => rfl
theorem kb_Move_is_alike_0_within_other {K : PySem.W.Frag} {cl : Nat → Addr} {f : Addr} {fd : FuncData} (F : FunD K "is_alike" "Move.is_alike" (defArgs st_Move_is_alike) (defBody st_Move_is_alike) (defScope st_Move_is_alike) [] [] f fd) : KB ⟨K, cl⟩ fd ["self", "other", "within"] ["within", "other"] 1 gk_Move_is_alike_0_within_other :=
  kb_0 F rfl fun _ _ _ _ _ _ us ws h1 h2 => match us, ws, h1, h2 with | [_], [_, _], _, _ => rfl
theorem kb_Move_is_alike_2 {K : PySem.W.Frag} {cl : Nat → Addr} {f : Addr} {fd : FuncData} (F : FunD K "is_alike" "Move.is_alike" (defArgs st_Move_is_alike) (defBody st_Move_is_alike) (defScope st_Move_is_alike) [] [] f fd) : KB ⟨K, cl⟩ fd ["self", "other", "within"] [] 3 gk_Move_is_alike_2 :=
  kb_0 F rfl fun _ _ _ _ _ _ us ws h1 h2 => match us, ws, h1, h2 with | [_, _, _], [], _, _ => rfl
theorem kb_Move_added_1 {K : PySem.W.Frag} {cl : Nat → Addr} {f : Addr} {fd : FuncData} (F : FunD K "added" "Move.added" (defArgs st_Move_added) (defBody st_Move_added) (defScope st_Move_added) [] [] f fd) : KB ⟨K, cl⟩ fd ["self", "times"] [] 2 gk_Move_added_1 :=
  kb_0 F rfl fun _ _ _ _ _ _ us ws h1 h2 => match us, ws, h1, h2 with | [_, _], [], _, _ => rfl
theorem kb_Move_done_0_times {K : PySem.W.Frag} {cl : Nat → Addr} {f : Addr} {fd : FuncData} (F : FunD K "done" "Move.done" (defArgs st_Move_done) (defBody st_Move_done) (defScope st_Move_done) [] [] f fd) : KB ⟨K, cl⟩ fd ["self", "times"] ["times"] 1 gk_Move_done_0_times :=
  kb_0 F rfl fun _ _ _ _ _ _ us ws h1 h2 => match us, ws, h1, h2 with | [_], [_], _, _ => rfl
theorem kb_Move_done_1 {K : PySem.W.Frag} {cl : Nat → Addr} {f : Addr} {fd : FuncData} (F : FunD K "done" "Move.done" (defArgs st_Move_done) (defBody st_Move_done) (defScope st_Move_done) [] [] f fd) : KB ⟨K, cl⟩ fd ["self", "times"] [] 2 gk_Move_done_1 :=
  kb_0 F rfl fun _ _ _ _ _ _ us ws h1 h2 => match us, ws, h1, h2 with | [_, _], [], _, _ => rfl
theorem kb_Move_counted_1 {K : PySem.W.Frag} {cl : Nat → Addr} {f : Addr} {fd : FuncData} (F : FunD K "counted" "Move.counted" (defArgs st_Move_counted) (defBody st_Move_counted) (defScope st_Move_counted) [] [] f fd) : KB ⟨K, cl⟩ fd ["self", "now"] [] 2 gk_Move_counted_1 :=
  kb_0 F rfl fun _ _ _ _ _ _ us ws h1 h2 => match us, ws, h1, h2 with | [_, _], [], _, _ => rfl
theorem kb_Move_tends_0_number {K : PySem.W.Frag} {cl : Nat → Addr} {f : Addr} {fd : FuncData} (F : FunD K "tends" "Move.tends" (defArgs st_Move_tends) (defBody st_Move_tends) (defScope st_Move_tends) [] [] f fd) : KB ⟨K, cl⟩ fd ["self", "number"] ["number"] 1 gk_Move_tends_0_number :=
  kb_0 F rfl fun _ _ _ _ _ _ us ws h1 h2 => match us, ws, h1, h2 with | [_], [_], _, _ => rfl
theorem kb_Move_tends_1 {K : PySem.W.Frag} {cl : Nat → Addr} {f : Addr} {fd : FuncData} (F : FunD K "tends" "Move.tends" (defArgs st_Move_tends) (defBody st_Move_tends) (defScope st_Move_tends) [] [] f fd) : KB ⟨K, cl⟩ fd ["self", "number"] [] 2 gk_Move_tends_1 :=
  kb_0 F rfl fun _ _ _ _ _ _ us ws h1 h2 => match us, ws, h1, h2 with | [_, _], [], _, _ => rfl
theorem kb_Move_setting_0_number {K : PySem.W.Frag} {cl : Nat → Addr} {f : Addr} {fd : FuncData} (F : FunD K "setting" "Move.setting" (defArgs st_Move_setting) (defBody st_Move_setting) (defScope st_Move_setting) [] [] f fd) : KB ⟨K, cl⟩ fd ["cls", "number"] ["number"] 1 gk_Move_setting_0_number :=
  kb_0 F rfl fun _ _ _ _ _ _ us ws h1 h2 => match us, ws, h1, h2 with | [_], [_], _, _ => rfl
theorem kb_Move_setting_1 {K : PySem.W.Frag} {cl : Nat → Addr} {f : Addr} {fd : FuncData} (F : FunD K "setting" "Move.setting" (defArgs st_Move_setting) (defBody st_Move_setting) (defScope st_Move_setting) [] [] f fd) : KB ⟨K, cl⟩ fd ["cls", "number"] [] 2 gk_Move_setting_1 :=
  kb_0 F rfl fun _ _ _ _ _ _ us ws h1 h2 => match us, ws, h1, h2 with | [_, _], [], _, _ => rfl
theorem kb_Move_staying_0_within {K : PySem.W.Frag} {cl : Nat → Addr} {f : Addr} {fd : FuncData} (F : FunD K "staying" "Move.staying" (defArgs st_Move_staying) (defBody st_Move_staying) (defScope st_Move_staying) [] [] f fd) : KB ⟨K, cl⟩ fd ["cls", "within"] ["within"] 1 gk_Move_staying_0_within :=
  kb_0 F rfl fun _ _ _ _ _ _ us ws h1 h2 => match us, ws, h1, h2 with | [_], [_], _, _ => rfl
theorem kb_Move_staying_1 {K : PySem.W.Frag} {cl : Nat → Addr} {f : Addr} {fd : FuncData} (F : FunD K "staying" "Move.staying" (defArgs st_Move_staying) (defBody st_Move_staying) (defScope st_Move_staying) [] [] f fd) : KB ⟨K, cl⟩ fd ["cls", "within"] [] 2 gk_Move_staying_1 :=
  kb_0 F rfl fun _ _ _ _ _ _ us ws h1 h2 => match us, ws, h1, h2 with | [_, _], [], _, _ => rfl
theorem kb_Move_adding_0_within_number {K : PySem.W.Frag} {cl : Nat → Addr} {f : Addr} {fd : FuncData} (F : FunD K "adding" "Move.adding" (defArgs st_Move_adding) (defBody st_Move_adding) (defScope st_Move_adding) [] [] f fd) : KB ⟨K, cl⟩ fd ["cls", "number", "within"] ["within", "number"] 1 gk_Move_adding_0_within_number :=
  kb_0 F rfl fun _ _ _ _ _ _ us ws h1 h2 => match us, ws, h1, h2 with | [_], [_, _], _, _ => rfl
theorem kb_Move_adding_2 {K : PySem.W.Frag} {cl : Nat → Addr} {f : Addr} {fd : FuncData} (F : FunD K "adding" "Move.adding" (defArgs st_Move_adding) (defBody st_Move_adding) (defScope st_Move_adding) [] [] f fd) : KB ⟨K, cl⟩ fd ["cls", "number", "within"] [] 3 gk_Move_adding_2 :=
  kb_0 F rfl fun _ _ _ _ _ _ us ws h1 h2 => match us, ws, h1, h2 with | [_, _, _], [], _, _ => rfl
theorem kb_Move_dividing_0_within_divisor {K : PySem.W.Frag} {cl : Nat → Addr} {f : Addr} {fd : FuncData} (F : FunD K "dividing" "Move.dividing" (defArgs st_Move_dividing) (defBody st_Move_dividing) (defScope st_Move_dividing) [] [] f fd) : KB ⟨K, cl⟩ fd ["cls", "divisor", "within"] ["within", "divisor"] 1 gk_Move_dividing_0_within_divisor :=
  kb_0 F rfl fun _ _ _ _ _ _ us ws h1 h2 => match us, ws, h1, h2 with | [_], [_, _], _, _ => rfl
theorem kb_Move_dividing_2 {K : PySem.W.Frag} {cl : Nat → Addr} {f : Addr} {fd : FuncData} (F : FunD K "dividing" "Move.dividing" (defArgs st_Move_dividing) (defBody st_Move_dividing) (defScope st_Move_dividing) [] [] f fd) : KB ⟨K, cl⟩ fd ["cls", "divisor", "within"] [] 3 gk_Move_dividing_2 :=
  kb_0 F rfl fun _ _ _ _ _ _ us ws h1 h2 => match us, ws, h1, h2 with | [_, _, _], [], _, _ => rfl
section
variable {P : Program} {w : World} {K : PySem.W.Frag} {mg : Str → Option Value} {base : Heap} {cl : Nat → Addr}
theorem ok__law_draw (T : Txt K mg base cl) {fd : FuncData} (F : FunD K "_law_draw" "_law_draw" (defArgs st__law_draw) (defBody st__law_draw) (defScope st__law_draw) [] [] (He.ga K "_law_draw") fd) : Df P w K mg base cl 1 "_law_draw" "_law_draw" (st__law_draw) [] (He.ga K "_law_draw") ["_law_rng_here", "_law_many"] m__law_draw := by
  unfold m__law_draw
  exact
  fn_u (N := ["_law_rng_here", "_law_many", "_law_digit"]) (k := 0) (st := st__law_draw) F ⟨rfl, rfl, rfl, by decide +kernel, rfl, by decide +kernel, by decide +kernel⟩ (fun _ _ _ _ _ _ us h => match us, h with | [_, _], _ => rfl) fun cdv A outer s H E C =>
    have S := C.toCt.seen (U := [0, 1, 2]) (L := [2]) (G := ["divmod", "int"]) (by decide +kernel)
    dss_cons (ds_if (dt_cmp o_gtI (de_ix (v C.toCt S 0) (de_int) rfl) (de_int) rfl) (dss_cons (ds_asg rfl rfl rfl (e_blt C.toCt S 0 c_divmod (T.nb 4 (by decide)) bt_divmod (da_cons rfl (de_ix (v C.toCt S 0) (de_int) rfl) (da_cons rfl (v C.toCt S 1) (da_nil)))) (dg_tup C.toCt.calm rfl (dgs_cons rfl (dg_sub (v C.toCt S 0) (de_int) rfl) (dgs_cons rfl (g_set C S 2) (dgs_nil))))) (dss_one (ds_ret (v C.toCt S 2)))) (dss_nil)) (dss_cons (ds_asg rfl rfl rfl (de_bin o_modI (e_bty C.toCt S 1 c_int (T.nb 5 (by decide)) bt_int (da_cons rfl (de_bin o_add (de_bin o_mul (de_ix (v C.toCt S 0) (de_int) rfl) (de_int)) (de_int)) (da_nil))) (de_int)) (dg_sub (v C.toCt S 0) (de_int) rfl)) (dss_one (ds_ret (de_bin o_modI (e_bty C.toCt S 1 c_int (T.nb 5 (by decide)) bt_int (da_cons rfl (de_bin o_divI (de_bin o_modI (e_bty C.toCt S 1 c_int (T.nb 5 (by decide)) bt_int (da_cons rfl (de_bin o_mul (de_ix (v C.toCt S 0) (de_int) rfl) (de_ix (v C.toCt S 0) (de_int) rfl)) (da_nil))) (de_int)) (de_int)) (da_nil))) (v C.toCt S 1)))))
theorem ok__law_plain (T : Txt K mg base cl) {fd : FuncData} (F : FunD K "_law_plain" "_law_plain" (defArgs st__law_plain) (defBody st__law_plain) (defScope st__law_plain) [] [] (He.ga K "_law_plain") fd) : Df P w K mg base cl 1 "_law_plain" "_law_plain" (st__law_plain) [] (He.ga K "_law_plain") ["_law_over", "_law_under"] m__law_plain := by
  unfold m__law_plain
  exact
  fn_u (N := ["_law_over", "_law_under", "_law_sign", "_law_first", "_law_second"]) (k := 0) (st := st__law_plain) F ⟨rfl, rfl, rfl, by decide +kernel, rfl, by decide +kernel, by decide +kernel⟩ (fun _ _ _ _ _ _ us h => match us, h with | [_, _], _ => rfl) fun cdv A outer s H E C =>
    have S := C.toCt.seen (U := [0, 1, 4, 3, 2]) (L := [2]) (G := ["abs", "int"]) (by decide +kernel)
    dss_cons (s_par2 C 3 4 (da_cons rfl (e_blt C.toCt S 0 c_abs (T.nb 6 (by decide)) bt_abs (da_cons rfl (v C.toCt S 0) (da_nil))) (da_cons rfl (e_blt C.toCt S 0 c_abs (T.nb 6 (by decide)) bt_abs (da_cons rfl (v C.toCt S 1) (da_nil))) (da_nil))) (by decide +kernel) (by decide +kernel) rfl) (dss_cons (s_while C fuel__law_plain (dt_cmp (o_neP C.toCt.room.units) (v C.toCt S 4) (de_int) rfl) (dss_one (s_par2 C 3 4 (da_cons rfl (v C.toCt S 4) (da_cons rfl (de_bin o_modI (e_bty C.toCt S 1 c_int (T.nb 5 (by decide)) bt_int (da_cons rfl (v C.toCt S 3) (da_nil))) (v C.toCt S 4)) (da_nil))) (by decide +kernel) (by decide +kernel) rfl))) (dss_cons (s_set C S 2 (de_if (dt_cmp o_ltI (v C.toCt S 1) (de_int) rfl) (de_neg (de_int)) (de_int))) (dss_one (ds_ret (de_tup (da_cons rfl (de_bin o_divZ (de_bin o_mul (v C.toCt S 2) (v C.toCt S 0)) (v C.toCt S 3)) (da_cons rfl (de_bin o_divZ (e_blt C.toCt S 0 c_abs (T.nb 6 (by decide)) bt_abs (da_cons rfl (v C.toCt S 1) (da_nil))) (v C.toCt S 3)) (da_nil))))))))
theorem ok__law_choice (T : Txt K mg base cl) (F__law_draw : Df P w K mg base cl 1 "_law_draw" "_law_draw" (st__law_draw) [] (He.ga K "_law_draw") ["_law_rng_here", "_law_many"] m__law_draw) {fd : FuncData} (F : FunD K "_law_choice" "_law_choice" (defArgs st__law_choice) (defBody st__law_choice) (defScope st__law_choice) [] [] (He.ga K "_law_choice") fd) : Df P w K mg base cl 2 "_law_choice" "_law_choice" (st__law_choice) [] (He.ga K "_law_choice") ["_law_rng_here", "_law_some"] m__law_choice := by
  unfold m__law_choice
  exact
  fn_u (N := ["_law_rng_here", "_law_some"]) (k := 1) (st := st__law_choice) F ⟨rfl, rfl, rfl, by decide +kernel, rfl, by decide +kernel, by decide +kernel⟩ (fun _ _ _ _ _ _ us h => match us, h with | [_, _], _ => rfl) fun cdv A outer s H E C =>
    have S := C.toCt.seen (U := [1, 0]) (L := []) (G := ["_law_draw", "len"]) (by decide +kernel)
    dss_one (ds_ret (de_ix (v C.toCt S 1) (e_dp C.toCt S 0 F__law_draw T.gd__law_draw (da_cons rfl (v C.toCt S 0) (da_cons rfl (e_blt C.toCt S 1 c_len (T.nb 0 (by decide)) bt_len (da_cons rfl (v C.toCt S 1) (da_nil))) (da_nil)))) rfl))
theorem ok__law_fraction (T : Txt K mg base cl) (F__law_draw : Df P w K mg base cl 1 "_law_draw" "_law_draw" (st__law_draw) [] (He.ga K "_law_draw") ["_law_rng_here", "_law_many"] m__law_draw) (F__law_plain : Df P w K mg base cl 1 "_law_plain" "_law_plain" (st__law_plain) [] (He.ga K "_law_plain") ["_law_over", "_law_under"] m__law_plain) (F__law_choice : Df P w K mg base cl 2 "_law_choice" "_law_choice" (st__law_choice) [] (He.ga K "_law_choice") ["_law_rng_here", "_law_some"] m__law_choice) {fd : FuncData} (F : FunD K "_law_fraction" "_law_fraction" (defArgs st__law_fraction) (defBody st__law_fraction) (defScope st__law_fraction) [] [] (He.ga K "_law_fraction") fd) : Df P w K mg base cl 3 "_law_fraction" "_law_fraction" (st__law_fraction) [] (He.ga K "_law_fraction") ["_law_rng_here"] m__law_fraction := by
  unfold m__law_fraction
  exact
  fn_u (N := ["_law_rng_here"]) (k := 2) (st := st__law_fraction) F ⟨rfl, rfl, rfl, by decide +kernel, rfl, by decide +kernel, by decide +kernel⟩ (fun _ _ _ _ _ _ us h => match us, h with | [_], _ => rfl) fun cdv A outer s H E C =>
    have S := C.toCt.seen (U := [0]) (L := []) (G := ["_law_draw", "_law_plain", "_law_choice"]) (by decide +kernel)
    dss_cons (ds_if (dt_cmp (o_eqP C.toCt.room.units) (e_dp C.toCt S 0 F__law_draw T.gd__law_draw (da_cons rfl (v C.toCt S 0) (da_cons rfl (de_int) (da_nil)))) (de_int) rfl) (dss_one (ds_ret (e_dp C.toCt S 1 F__law_plain T.gd__law_plain (da_cons rfl (e_dp C.toCt S 2 F__law_choice T.gd__law_choice (da_cons rfl (v C.toCt S 0) (da_cons rfl (de_lst (da_cons rfl (de_bin o_add (de_bin o_powI (de_int) (de_int)) (de_int)) (da_cons rfl (de_neg (de_bin o_powI (de_int) (de_int))) (da_cons rfl (de_bin o_mul (de_int) (de_bin o_powI (de_int) (de_int))) (da_nil))))) (da_nil)))) (da_cons rfl (de_bin o_add (de_int) (e_dp C.toCt S 0 F__law_draw T.gd__law_draw (da_cons rfl (v C.toCt S 0) (da_cons rfl (de_bin o_powI (de_int) (de_int)) (da_nil))))) (da_nil)))))) (dss_nil)) (dss_one (ds_ret (e_dp C.toCt S 1 F__law_plain T.gd__law_plain (da_cons rfl (de_bin o_subI (e_dp C.toCt S 0 F__law_draw T.gd__law_draw (da_cons rfl (v C.toCt S 0) (da_cons rfl (de_int) (da_nil)))) (de_int)) (da_cons rfl (e_dp C.toCt S 2 F__law_choice T.gd__law_choice (da_cons rfl (v C.toCt S 0) (da_cons rfl (de_lst (da_cons rfl (de_int) (da_cons rfl (de_int) (da_cons rfl (de_int) (da_cons rfl (de_int) (da_cons rfl (de_int) (da_cons rfl (de_int) (da_nil)))))))) (da_nil)))) (da_nil))))))
theorem ok_is_integer (T : Txt K mg base cl) {fd : FuncData} (F : FunD K "is_integer" "is_integer" (defArgs st_is_integer) (defBody st_is_integer) (defScope st_is_integer) [] [] (He.ga K "is_integer") fd) : Df P w K mg base cl 2 "is_integer" "is_integer" (st_is_integer) [] (He.ga K "is_integer") ["value"] m_is_integer := by
  unfold m_is_integer
  exact
  fn_u (N := ["value"]) (k := 1) (st := st_is_integer) F ⟨rfl, rfl, rfl, by decide +kernel, rfl, by decide +kernel, by decide +kernel⟩ (fun _ _ _ _ _ _ us h => match us, h with | [_], _ => rfl) fun cdv A outer s H E C =>
    have S := C.toCt.seen (U := [0]) (L := []) (G := ["isinstance", "int", "bool"]) (by decide +kernel)
    dss_one (ds_ret (de_and (e_blt C.toCt S 0 (c_isD T.KF T.TK) (T.nb 7 (by decide)) bt_isinstance (da_cons rfl (v C.toCt S 0) (da_cons rfl (e_ty C.toCt S 1 (T.nb 5 (by decide)) bt_int) (da_nil)))) (de_one (de_not (e_blt C.toCt S 0 (c_isD T.KF T.TK) (T.nb 7 (by decide)) bt_isinstance (da_cons rfl (v C.toCt S 0) (da_cons rfl (e_ty C.toCt S 2 (T.nb 8 (by decide)) bt_bool) (da_nil))))))))
theorem ok_divisor_of (T : Txt K mg base cl) {fd : FuncData} (F : FunD K "divisor_of" "divisor_of" (defArgs st_divisor_of) (defBody st_divisor_of) (defScope st_divisor_of) [] [] (He.ga K "divisor_of") fd) : Df P w K mg base cl 1 "divisor_of" "divisor_of" (st_divisor_of) [] (He.ga K "divisor_of") ["one", "other"] m_divisor_of := by
  unfold m_divisor_of
  exact
  fn_u (N := ["one", "other"]) (k := 0) (st := st_divisor_of) F ⟨rfl, rfl, rfl, by decide +kernel, rfl, by decide +kernel, by decide +kernel⟩ (fun _ _ _ _ _ _ us h => match us, h with | [_, _], _ => rfl) fun cdv A outer s H E C =>
    have S := C.toCt.seen (U := [0, 1]) (L := []) (G := ["abs"]) (by decide +kernel)
    dss_cons (s_par2 C 0 1 (da_cons rfl (e_blt C.toCt S 0 c_abs (T.nb 6 (by decide)) bt_abs (da_cons rfl (v C.toCt S 0) (da_nil))) (da_cons rfl (e_blt C.toCt S 0 c_abs (T.nb 6 (by decide)) bt_abs (da_cons rfl (v C.toCt S 1) (da_nil))) (da_nil))) (by decide +kernel) (by decide +kernel) rfl) (dss_cons (s_while C fuel_divisor_of (dt_cmp o_gtI (v C.toCt S 1) (de_int) rfl) (dss_one (s_par2 C 0 1 (da_cons rfl (v C.toCt S 1) (da_cons rfl (de_bin o_modI (v C.toCt S 0) (v C.toCt S 1)) (da_nil))) (by decide +kernel) (by decide +kernel) rfl))) (dss_one (ds_ret (v C.toCt S 0))))
theorem ok_Ratio___init__ (T : Txt K mg base cl) (F_is_integer : Df P w K mg base cl 2 "is_integer" "is_integer" (st_is_integer) [] (He.ga K "is_integer") ["value"] m_is_integer) (F_divisor_of : Df P w K mg base cl 1 "divisor_of" "divisor_of" (st_divisor_of) [] (He.ga K "divisor_of") ["one", "other"] m_divisor_of) {fd : FuncData} (F : FunD K "__init__" "Ratio.__init__" (defArgs st_Ratio___init__) (defBody st_Ratio___init__) (defScope st_Ratio___init__) [V.int 1] [] (He.ma K (cl 0) "__init__") fd) : Df P w K mg base cl 3 "__init__" "Ratio.__init__" (st_Ratio___init__) [V.int 1] (He.ma K (cl 0) "__init__") ["self", "top", "bottom"] m_Ratio___init__ := by
  unfold m_Ratio___init__
  exact
  fn_u (N := ["self", "top", "bottom", "shared"]) (k := 2) (st := st_Ratio___init__) F ⟨rfl, rfl, rfl, by decide +kernel, rfl, by decide +kernel, by decide +kernel⟩ (fun _ _ _ _ _ _ us h => match us, h with | [_, _, _], _ => rfl) fun cdv A outer s H E C =>
    have S := C.toCt.seen (U := [1, 2, 0, 3]) (L := [3]) (G := ["is_integer", "divisor_of"]) (by decide +kernel)
    dss_cons (ds_if (dt_not (dt_tru rfl (e_dp C.toCt S 0 F_is_integer T.gd_is_integer (da_cons rfl (v C.toCt S 1) (da_nil))))) (dss_one (ds_bad)) (dss_nil)) (dss_cons (ds_if (PW.pt (dw_or (dt_not (dt_tru rfl (e_dp C.toCt S 0 F_is_integer T.gd_is_integer (da_cons rfl (v C.toCt S 2) (da_nil))))) (dw_or1 (dt_cmp (o_eqP C.toCt.room.units) (v C.toCt S 2) (de_int) rfl)))) (dss_one (ds_bad)) (dss_nil)) (dss_cons (s_set C S 3 (de_if (dt_cmp o_gtI (v C.toCt S 2) (de_int) rfl) (e_dp C.toCt S 1 F_divisor_of T.gd_divisor_of (da_cons rfl (v C.toCt S 1) (da_cons rfl (v C.toCt S 2) (da_nil)))) (de_neg (e_dp C.toCt S 1 F_divisor_of T.gd_divisor_of (da_cons rfl (v C.toCt S 1) (da_cons rfl (v C.toCt S 2) (da_nil))))))) (dss_cons (s_fl T.fl_own_top (v C.toCt S 0) (de_bin o_divZ (v C.toCt S 1) (v C.toCt S 3))) (dss_one (s_fl T.fl_own_bottom (v C.toCt S 0) (de_bin o_divZ (v C.toCt S 2) (v C.toCt S 3)))))))
theorem ok__law_thing (T : Txt K mg base cl) (F__law_fraction : Df P w K mg base cl 3 "_law_fraction" "_law_fraction" (st__law_fraction) [] (He.ga K "_law_fraction") ["_law_rng_here"] m__law_fraction) (F_Ratio___init__ : Df P w K mg base cl 3 "__init__" "Ratio.__init__" (st_Ratio___init__) [V.int 1] (He.ma K (cl 0) "__init__") ["self", "top", "bottom"] m_Ratio___init__) {fd : FuncData} (F : FunD K "_law_thing" "_law_thing" (defArgs st__law_thing) (defBody st__law_thing) (defScope st__law_thing) [] [] (He.ga K "_law_thing") fd) : Df P w K mg base cl 5 "_law_thing" "_law_thing" (st__law_thing) [] (He.ga K "_law_thing") ["_law_rng_here"] m__law_thing := by
  unfold m__law_thing
  exact
  fn_u (N := ["_law_rng_here", "_law_found"]) (k := 4) (st := st__law_thing) F ⟨rfl, rfl, rfl, by decide +kernel, rfl, by decide +kernel, by decide +kernel⟩ (fun _ _ _ _ _ _ us h => match us, h with | [_], _ => rfl) fun cdv A outer s H E C =>
    have S := C.toCt.seen (U := [0, 1]) (L := [1]) (G := ["_law_fraction", "Ratio"]) (by decide +kernel)
    dss_cons (s_set C S 1 (e_dp C.toCt S 0 F__law_fraction T.gd__law_fraction (da_cons rfl (v C.toCt S 0) (da_nil)))) (dss_one (ds_ret (e_mk C.toCt S 1 T.mk_Ratio F_Ratio___init__ T.gc_Ratio (fun _ h => kb_Ratio___init___2 h) (da_cons rfl (de_ix (v C.toCt S 1) (de_int) rfl) (da_cons rfl (de_ix (v C.toCt S 1) (de_int) rfl) (da_nil))) (dk_nil))))
theorem ok_Ratio___eq__ (T : Txt K mg base cl) {fd : FuncData} (F : FunD K "__eq__" "Ratio.__eq__" (defArgs st_Ratio___eq__) (defBody st_Ratio___eq__) (defScope st_Ratio___eq__) [] [] (He.ma K (cl 0) "__eq__") fd) : Df P w K mg base cl 2 "__eq__" "Ratio.__eq__" (st_Ratio___eq__) [] (He.ma K (cl 0) "__eq__") ["self", "other"] m_Ratio___eq__ := by
  unfold m_Ratio___eq__
  exact
  fn_u (N := ["self", "other"]) (k := 1) (st := st_Ratio___eq__) F ⟨rfl, rfl, rfl, by decide +kernel, rfl, by decide +kernel, by decide +kernel⟩ (fun _ _ _ _ _ _ us h => match us, h with | [_, _], _ => rfl) fun cdv A outer s H E C =>
    have S := C.toCt.seen (U := [1, 0]) (L := []) (G := ["isinstance", "Ratio"]) (by decide +kernel)
    dss_one (ds_ret (de_and (e_blt C.toCt S 0 (c_isD T.KF T.TK) (T.nb 7 (by decide)) bt_isinstance (da_cons rfl (v C.toCt S 1) (da_cons rfl (e_cls C.toCt S 1 T.gc_Ratio) (da_nil)))) (de_and (de_cmp (o_eqP C.toCt.room.units) (e_fl T.fl_own_top (v C.toCt S 0)) (e_fl T.fl_own_top (v C.toCt S 1)) rfl) (de_one (de_cmp (o_eqP C.toCt.room.units) (e_fl T.fl_own_bottom (v C.toCt S 0)) (e_fl T.fl_own_bottom (v C.toCt S 1)) rfl)))))
theorem ok_Range___eq__ (T : Txt K mg base cl) (F_Ratio___eq__ : Df P w K mg base cl 2 "__eq__" "Ratio.__eq__" (st_Ratio___eq__) [] (He.ma K (cl 0) "__eq__") ["self", "other"] m_Ratio___eq__) {fd : FuncData} (F : FunD K "__eq__" "Range.__eq__" (defArgs st_Range___eq__) (defBody st_Range___eq__) (defScope st_Range___eq__) [] [] (He.ma K (cl 1) "__eq__") fd) : Df P w K mg base cl 7 "__eq__" "Range.__eq__" (st_Range___eq__) [] (He.ma K (cl 1) "__eq__") ["self", "other"] m_Range___eq__ := by
  unfold m_Range___eq__
  exact
  fn_u (N := ["self", "other"]) (k := 6) (st := st_Range___eq__) F ⟨rfl, rfl, rfl, by decide +kernel, rfl, by decide +kernel, by decide +kernel⟩ (fun _ _ _ _ _ _ us h => match us, h with | [_, _], _ => rfl) fun cdv A outer s H E C =>
    have S := C.toCt.seen (U := [1, 0]) (L := []) (G := ["isinstance", "Range"]) (by decide +kernel)
    dss_one (ds_ret (de_and (e_blt C.toCt S 0 (c_isD T.KF T.TK) (T.nb 7 (by decide)) bt_isinstance (da_cons rfl (v C.toCt S 1) (da_cons rfl (e_cls C.toCt S 1 T.gc_Range) (da_nil)))) (de_and (de_cmpW (w_eqR C.toCt T F_Ratio___eq__) (e_fl T.fl_own_low (v C.toCt S 0)) (e_fl T.fl_own_low (v C.toCt S 1)) rfl) (de_one (de_cmpW (w_eqR C.toCt T F_Ratio___eq__) (e_fl T.fl_own_high (v C.toCt S 0)) (e_fl T.fl_own_high (v C.toCt S 1)) rfl)))))
theorem ok_Move___eq__ (T : Txt K mg base cl) (F_Ratio___eq__ : Df P w K mg base cl 2 "__eq__" "Ratio.__eq__" (st_Ratio___eq__) [] (He.ma K (cl 0) "__eq__") ["self", "other"] m_Ratio___eq__) {fd : FuncData} (F : FunD K "__eq__" "Move.__eq__" (defArgs st_Move___eq__) (defBody st_Move___eq__) (defScope st_Move___eq__) [] [] (He.ma K (cl 2) "__eq__") fd) : Df P w K mg base cl 7 "__eq__" "Move.__eq__" (st_Move___eq__) [] (He.ma K (cl 2) "__eq__") ["self", "other"] m_Move___eq__ := by
  unfold m_Move___eq__
  exact
  fn_u (N := ["self", "other"]) (k := 6) (st := st_Move___eq__) F ⟨rfl, rfl, rfl, by decide +kernel, rfl, by decide +kernel, by decide +kernel⟩ (fun _ _ _ _ _ _ us h => match us, h with | [_, _], _ => rfl) fun cdv A outer s H E C =>
    have S := C.toCt.seen (U := [1, 0]) (L := []) (G := ["isinstance", "Move"]) (by decide +kernel)
    dss_cons (ds_if (PW.pt (dw_or (dt_not (dt_tru rfl (e_blt C.toCt S 0 (c_isD T.KF T.TK) (T.nb 7 (by decide)) bt_isinstance (da_cons rfl (v C.toCt S 1) (da_cons rfl (e_cls C.toCt S 1 T.gc_Move) (da_nil)))))) (dw_or (dt_cmpW (w_neR C.toCt T F_Ratio___eq__) (e_fl T.fl_own_divisor (v C.toCt S 0)) (e_fl T.fl_own_divisor (v C.toCt S 1)) rfl) (dw_or1 (dt_cmpW (w_neR C.toCt T F_Ratio___eq__) (e_fl T.fl_own_plus (v C.toCt S 0)) (e_fl T.fl_own_plus (v C.toCt S 1)) rfl))))) (dss_one (ds_ret (de_bl))) (dss_nil)) (dss_one (ds_ret (de_and (de_cmpW (w_eqR C.toCt T F_Ratio___eq__) (e_fl T.fl_own_low (v C.toCt S 0)) (e_fl T.fl_own_low (v C.toCt S 1)) rfl) (de_one (de_cmpW (w_eqR C.toCt T F_Ratio___eq__) (e_fl T.fl_own_high (v C.toCt S 0)) (e_fl T.fl_own_high (v C.toCt S 1)) rfl)))))
theorem ok_is_number (T : Txt K mg base cl) (F_is_integer : Df P w K mg base cl 2 "is_integer" "is_integer" (st_is_integer) [] (He.ga K "is_integer") ["value"] m_is_integer) {fd : FuncData} (F : FunD K "is_number" "is_number" (defArgs st_is_number) (defBody st_is_number) (defScope st_is_number) [] [] (He.ga K "is_number") fd) : Df P w K mg base cl 3 "is_number" "is_number" (st_is_number) [] (He.ga K "is_number") ["value"] m_is_number := by
  unfold m_is_number
  exact
  fn_u (N := ["value"]) (k := 2) (st := st_is_number) F ⟨rfl, rfl, rfl, by decide +kernel, rfl, by decide +kernel, by decide +kernel⟩ (fun _ _ _ _ _ _ us h => match us, h with | [_], _ => rfl) fun cdv A outer s H E C =>
    have S := C.toCt.seen (U := [0]) (L := []) (G := ["is_integer", "isinstance", "Ratio"]) (by decide +kernel)
    dss_one (ds_ret (de_or (e_dp C.toCt S 0 F_is_integer T.gd_is_integer (da_cons rfl (v C.toCt S 0) (da_nil))) (de_one (e_blt C.toCt S 1 (c_isD T.KF T.TK) (T.nb 7 (by decide)) bt_isinstance (da_cons rfl (v C.toCt S 0) (da_cons rfl (e_cls C.toCt S 2 T.gc_Ratio) (da_nil)))))))
theorem ok_require_number (T : Txt K mg base cl) (F_is_number : Df P w K mg base cl 3 "is_number" "is_number" (st_is_number) [] (He.ga K "is_number") ["value"] m_is_number) {fd : FuncData} (F : FunD K "require_number" "require_number" (defArgs st_require_number) (defBody st_require_number) (defScope st_require_number) [] [] (He.ga K "require_number") fd) : Df P w K mg base cl 4 "require_number" "require_number" (st_require_number) [] (He.ga K "require_number") ["value"] m_require_number := by
  unfold m_require_number
  exact
  fn_u (N := ["value"]) (k := 3) (st := st_require_number) F ⟨rfl, rfl, rfl, by decide +kernel, rfl, by decide +kernel, by decide +kernel⟩ (fun _ _ _ _ _ _ us h => match us, h with | [_], _ => rfl) fun cdv A outer s H E C =>
    have S := C.toCt.seen (U := [0]) (L := []) (G := ["is_number"]) (by decide +kernel)
    dss_one (ds_if (dt_not (dt_tru rfl (e_dp C.toCt S 0 F_is_number T.gd_is_number (da_cons rfl (v C.toCt S 0) (da_nil))))) (dss_one (ds_bad)) (dss_nil))
theorem ok_Ratio_of (T : Txt K mg base cl) (F_require_number : Df P w K mg base cl 4 "require_number" "require_number" (st_require_number) [] (He.ga K "require_number") ["value"] m_require_number) (F_is_integer : Df P w K mg base cl 2 "is_integer" "is_integer" (st_is_integer) [] (He.ga K "is_integer") ["value"] m_is_integer) (F_Ratio___init__ : Df P w K mg base cl 3 "__init__" "Ratio.__init__" (st_Ratio___init__) [V.int 1] (He.ma K (cl 0) "__init__") ["self", "top", "bottom"] m_Ratio___init__) {fd : FuncData} (F : FunD K "of" "Ratio.of" (defArgs st_Ratio_of) (defBody st_Ratio_of) (defScope st_Ratio_of) [] [] (He5.wf K (cl 0) "classmethod" "of") fd) : Df P w K mg base cl 5 "of" "Ratio.of" (st_Ratio_of) [] (He5.wf K (cl 0) "classmethod" "of") ["cls", "number"] m_Ratio_of := by
  unfold m_Ratio_of
  exact
  fn_u (N := ["cls", "number"]) (k := 4) (st := st_Ratio_of) F ⟨rfl, rfl, rfl, by decide +kernel, rfl, by decide +kernel, by decide +kernel⟩ (fun _ _ _ _ _ _ us h => match us, h with | [_, _], _ => rfl) fun cdv A outer s H E C =>
    have S := C.toCt.seen (U := [1]) (L := []) (G := ["require_number", "is_integer", "Ratio"]) (by decide +kernel)
    dss_cons (ds_drop rfl (e_dp C.toCt S 0 F_require_number T.gd_require_number (da_cons rfl (v C.toCt S 1) (da_nil)))) (dss_one (ds_ret (de_if (dt_tru rfl (e_dp C.toCt S 1 F_is_integer T.gd_is_integer (da_cons rfl (v C.toCt S 1) (da_nil)))) (e_mk C.toCt S 2 T.mk_Ratio F_Ratio___init__ T.gc_Ratio (fun _ h => kb_Ratio___init___1 h) (da_cons rfl (v C.toCt S 1) (da_nil)) (dk_nil)) (v C.toCt S 1))))
theorem ok_Ratio_top (T : Txt K mg base cl) {fd : FuncData} (F : FunD K "top" "Ratio.top" (defArgs st_Ratio_top) (defBody st_Ratio_top) (defScope st_Ratio_top) [] [] (He5.wf K (cl 0) "property" "top") fd) : Df P w K mg base cl 1 "top" "Ratio.top" (st_Ratio_top) [] (He5.wf K (cl 0) "property" "top") ["self"] m_Ratio_top := by
  unfold m_Ratio_top
  exact
  fn_u (N := ["self"]) (k := 0) (st := st_Ratio_top) F ⟨rfl, rfl, rfl, by decide +kernel, rfl, by decide +kernel, by decide +kernel⟩ (fun _ _ _ _ _ _ us h => match us, h with | [_], _ => rfl) fun cdv A outer s H E C =>
    have S := C.toCt.seen (U := [0]) (L := []) (G := []) (by decide +kernel)
    dss_one (ds_ret (e_fl T.fl_own_top (v C.toCt S 0)))
theorem ok_Ratio_bottom (T : Txt K mg base cl) {fd : FuncData} (F : FunD K "bottom" "Ratio.bottom" (defArgs st_Ratio_bottom) (defBody st_Ratio_bottom) (defScope st_Ratio_bottom) [] [] (He5.wf K (cl 0) "property" "bottom") fd) : Df P w K mg base cl 1 "bottom" "Ratio.bottom" (st_Ratio_bottom) [] (He5.wf K (cl 0) "property" "bottom") ["self"] m_Ratio_bottom := by
  unfold m_Ratio_bottom
  exact
  fn_u (N := ["self"]) (k := 0) (st := st_Ratio_bottom) F ⟨rfl, rfl, rfl, by decide +kernel, rfl, by decide +kernel, by decide +kernel⟩ (fun _ _ _ _ _ _ us h => match us, h with | [_], _ => rfl) fun cdv A outer s H E C =>
    have S := C.toCt.seen (U := [0]) (L := []) (G := []) (by decide +kernel)
    dss_one (ds_ret (e_fl T.fl_own_bottom (v C.toCt S 0)))
theorem ok_is_less (T : Txt K mg base cl) (F_Ratio_top : Df P w K mg base cl 1 "top" "Ratio.top" (st_Ratio_top) [] (He5.wf K (cl 0) "property" "top") ["self"] m_Ratio_top) (F_Ratio_bottom : Df P w K mg base cl 1 "bottom" "Ratio.bottom" (st_Ratio_bottom) [] (He5.wf K (cl 0) "property" "bottom") ["self"] m_Ratio_bottom) {fd : FuncData} (F : FunD K "is_less" "is_less" (defArgs st_is_less) (defBody st_is_less) (defScope st_is_less) [] [] (He.ga K "is_less") fd) : Df P w K mg base cl 3 "is_less" "is_less" (st_is_less) [] (He.ga K "is_less") ["one", "other"] m_is_less := by
  unfold m_is_less
  exact
  fn_u (N := ["one", "other"]) (k := 2) (st := st_is_less) F ⟨rfl, rfl, rfl, by decide +kernel, rfl, by decide +kernel, by decide +kernel⟩ (fun _ _ _ _ _ _ us h => match us, h with | [_, _], _ => rfl) fun cdv A outer s H E C =>
    have S := C.toCt.seen (U := [0, 1]) (L := []) (G := []) (by decide +kernel)
    dss_one (ds_ret (de_cmp o_ltI (de_bin o_mul (e_pr C.toCt (pt_one T.cl_Ratio T.pr_Ratio_top F_Ratio_top) (v C.toCt S 0)) (e_pr C.toCt (pt_one T.cl_Ratio T.pr_Ratio_bottom F_Ratio_bottom) (v C.toCt S 1))) (de_bin o_mul (e_pr C.toCt (pt_one T.cl_Ratio T.pr_Ratio_top F_Ratio_top) (v C.toCt S 1)) (e_pr C.toCt (pt_one T.cl_Ratio T.pr_Ratio_bottom F_Ratio_bottom) (v C.toCt S 0))) rfl))
theorem ok_Ratio_is_below (T : Txt K mg base cl) (F_is_less : Df P w K mg base cl 3 "is_less" "is_less" (st_is_less) [] (He.ga K "is_less") ["one", "other"] m_is_less) (F_Ratio_of : Df P w K mg base cl 5 "of" "Ratio.of" (st_Ratio_of) [] (He5.wf K (cl 0) "classmethod" "of") ["cls", "number"] m_Ratio_of) {fd : FuncData} (F : FunD K "is_below" "Ratio.is_below" (defArgs st_Ratio_is_below) (defBody st_Ratio_is_below) (defScope st_Ratio_is_below) [] [] (He.ma K (cl 0) "is_below") fd) : Df P w K mg base cl 6 "is_below" "Ratio.is_below" (st_Ratio_is_below) [] (He.ma K (cl 0) "is_below") ["self", "other"] m_Ratio_is_below := by
  unfold m_Ratio_is_below
  exact
  fn_u (N := ["self", "other"]) (k := 5) (st := st_Ratio_is_below) F ⟨rfl, rfl, rfl, by decide +kernel, rfl, by decide +kernel, by decide +kernel⟩ (fun _ _ _ _ _ _ us h => match us, h with | [_, _], _ => rfl) fun cdv A outer s H E C =>
    have S := C.toCt.seen (U := [0, 1]) (L := []) (G := ["is_less", "Ratio"]) (by decide +kernel)
    dss_one (ds_ret (e_dp C.toCt S 0 F_is_less T.gd_is_less (da_cons rfl (v C.toCt S 0) (da_cons rfl (e_cm C.toCt 0 T.cr_Ratio T.cm_Ratio_of F_Ratio_of (fun _ h => kb_Ratio_of_1 h) (e_cls C.toCt S 1 T.gc_Ratio) (da_cons rfl (v C.toCt S 1) (da_nil)) (dk_nil)) (da_nil)))))
theorem ok_Ratio_sign (T : Txt K mg base cl) {fd : FuncData} (F : FunD K "sign" "Ratio.sign" (defArgs st_Ratio_sign) (defBody st_Ratio_sign) (defScope st_Ratio_sign) [] [] (He5.wf K (cl 0) "property" "sign") fd) : Df P w K mg base cl 1 "sign" "Ratio.sign" (st_Ratio_sign) [] (He5.wf K (cl 0) "property" "sign") ["self"] m_Ratio_sign := by
  unfold m_Ratio_sign
  exact
  fn_u (N := ["self"]) (k := 0) (st := st_Ratio_sign) F ⟨rfl, rfl, rfl, by decide +kernel, rfl, by decide +kernel, by decide +kernel⟩ (fun _ _ _ _ _ _ us h => match us, h with | [_], _ => rfl) fun cdv A outer s H E C =>
    have S := C.toCt.seen (U := [0]) (L := []) (G := ["int"]) (by decide +kernel)
    dss_one (ds_ret (de_bin o_subI (e_bty C.toCt S 0 c_int (T.nb 5 (by decide)) bt_int (da_cons rfl (de_cmp o_gtI (e_fl T.fl_own_top (v C.toCt S 0)) (de_int) rfl) (da_nil))) (e_bty C.toCt S 0 c_int (T.nb 5 (by decide)) bt_int (da_cons rfl (de_cmp o_ltI (e_fl T.fl_own_top (v C.toCt S 0)) (de_int) rfl) (da_nil)))))
theorem ok_Ratio_over (T : Txt K mg base cl) (F_Ratio_of : Df P w K mg base cl 5 "of" "Ratio.of" (st_Ratio_of) [] (He5.wf K (cl 0) "classmethod" "of") ["cls", "number"] m_Ratio_of) (F_Ratio___init__ : Df P w K mg base cl 3 "__init__" "Ratio.__init__" (st_Ratio___init__) [V.int 1] (He.ma K (cl 0) "__init__") ["self", "top", "bottom"] m_Ratio___init__) {fd : FuncData} (F : FunD K "over" "Ratio.over" (defArgs st_Ratio_over) (defBody st_Ratio_over) (defScope st_Ratio_over) [] [] (He.ma K (cl 0) "over") fd) : Df P w K mg base cl 6 "over" "Ratio.over" (st_Ratio_over) [] (He.ma K (cl 0) "over") ["self", "other"] m_Ratio_over := by
  unfold m_Ratio_over
  exact
  fn_u (N := ["self", "other", "beside"]) (k := 5) (st := st_Ratio_over) F ⟨rfl, rfl, rfl, by decide +kernel, rfl, by decide +kernel, by decide +kernel⟩ (fun _ _ _ _ _ _ us h => match us, h with | [_, _], _ => rfl) fun cdv A outer s H E C =>
    have S := C.toCt.seen (U := [1, 2, 0]) (L := [2]) (G := ["Ratio"]) (by decide +kernel)
    dss_cons (s_set C S 2 (e_cm C.toCt 0 T.cr_Ratio T.cm_Ratio_of F_Ratio_of (fun _ h => kb_Ratio_of_1 h) (e_cls C.toCt S 0 T.gc_Ratio) (da_cons rfl (v C.toCt S 1) (da_nil)) (dk_nil))) (dss_cons (ds_if (dt_cmp (o_eqP C.toCt.room.units) (e_fl T.fl_own_top (v C.toCt S 2)) (de_int) rfl) (dss_one (ds_bad)) (dss_nil)) (dss_one (ds_ret (e_mk C.toCt S 0 T.mk_Ratio F_Ratio___init__ T.gc_Ratio (fun _ h => kb_Ratio___init___2 h) (da_cons rfl (de_bin o_mul (e_fl T.fl_own_top (v C.toCt S 0)) (e_fl T.fl_own_bottom (v C.toCt S 2))) (da_cons rfl (de_bin o_mul (e_fl T.fl_own_bottom (v C.toCt S 0)) (e_fl T.fl_own_top (v C.toCt S 2))) (da_nil))) (dk_nil)))))
theorem ok_Ratio___str__ (T : Txt K mg base cl) {fd : FuncData} (F : FunD K "__str__" "Ratio.__str__" (defArgs st_Ratio___str__) (defBody st_Ratio___str__) (defScope st_Ratio___str__) [] [] (He.ma K (cl 0) "__str__") fd) : Df P w K mg base cl 1 "__str__" "Ratio.__str__" (st_Ratio___str__) [] (He.ma K (cl 0) "__str__") ["self"] m_Ratio___str__ := by
  unfold m_Ratio___str__
  exact
  fn_u (N := ["self"]) (k := 0) (st := st_Ratio___str__) F ⟨rfl, rfl, rfl, by decide +kernel, rfl, by decide +kernel, by decide +kernel⟩ (fun _ _ _ _ _ _ us h => match us, h with | [_], _ => rfl) fun cdv A outer s H E C =>
    have S := C.toCt.seen (U := [0]) (L := []) (G := []) (by decide +kernel)
    dss_cons (ds_if (dt_cmp (o_eqP C.toCt.room.units) (e_fl T.fl_own_bottom (v C.toCt S 0)) (de_int) rfl) (dss_one (ds_ret (de_join1 (de_fmt (e_fl T.fl_own_top (v C.toCt S 0)))))) (dss_nil)) (dss_one (ds_ret (de_join (.cons (de_fmt (e_fl T.fl_own_top (v C.toCt S 0))) (.cons (de_str) (.cons (de_fmt (e_fl T.fl_own_bottom (v C.toCt S 0))) (.nil)))))))
theorem ok__law_ratios_right (T : Txt K mg base cl) (F_Ratio___init__ : Df P w K mg base cl 3 "__init__" "Ratio.__init__" (st_Ratio___init__) [V.int 1] (He.ma K (cl 0) "__init__") ["self", "top", "bottom"] m_Ratio___init__) (F_Ratio___eq__ : Df P w K mg base cl 2 "__eq__" "Ratio.__eq__" (st_Ratio___eq__) [] (He.ma K (cl 0) "__eq__") ["self", "other"] m_Ratio___eq__) (F_Ratio_of : Df P w K mg base cl 5 "of" "Ratio.of" (st_Ratio_of) [] (He5.wf K (cl 0) "classmethod" "of") ["cls", "number"] m_Ratio_of) (F_is_number : Df P w K mg base cl 3 "is_number" "is_number" (st_is_number) [] (He.ga K "is_number") ["value"] m_is_number) (F_Ratio_is_below : Df P w K mg base cl 6 "is_below" "Ratio.is_below" (st_Ratio_is_below) [] (He.ma K (cl 0) "is_below") ["self", "other"] m_Ratio_is_below) (F_Ratio_sign : Df P w K mg base cl 1 "sign" "Ratio.sign" (st_Ratio_sign) [] (He5.wf K (cl 0) "property" "sign") ["self"] m_Ratio_sign) (F_Ratio_over : Df P w K mg base cl 6 "over" "Ratio.over" (st_Ratio_over) [] (He.ma K (cl 0) "over") ["self", "other"] m_Ratio_over) (F_Ratio___str__ : Df P w K mg base cl 1 "__str__" "Ratio.__str__" (st_Ratio___str__) [] (He.ma K (cl 0) "__str__") ["self"] m_Ratio___str__) {fd : FuncData} (F : FunD K "_law_ratios_right" "_law_ratios_right" (defArgs st__law_ratios_right) (defBody st__law_ratios_right) (defScope st__law_ratios_right) [] [] (He.ga K "_law_ratios_right") fd) : Df P w K mg base cl 7 "_law_ratios_right" "_law_ratios_right" (st__law_ratios_right) [] (He.ga K "_law_ratios_right") ["_law_first", "_law_second", "_law_top_part", "_law_bottom_part"] m__law_ratios_right := by
  unfold m__law_ratios_right
  exact
  fn_u (N := ["_law_first", "_law_second", "_law_top_part", "_law_bottom_part", "_law_made"]) (k := 6) (st := st__law_ratios_right) F ⟨rfl, rfl, rfl, by decide +kernel, rfl, by decide +kernel, by decide +kernel⟩ (fun _ _ _ _ _ _ us h => match us, h with | [_, _, _, _], _ => rfl) fun cdv A outer s H E C =>
    have S := C.toCt.seen (U := [2, 3, 4, 0, 1]) (L := [4]) (G := ["Ratio", "is_number", "str"]) (by decide +kernel)
    dss_cons (s_set C S 4 (e_mk C.toCt S 0 T.mk_Ratio F_Ratio___init__ T.gc_Ratio (fun _ h => kb_Ratio___init___0_top_bottom h) (da_nil) (dk_cons (v C.toCt S 2) (dk_cons (v C.toCt S 3) (dk_nil))))) (dss_cons (ds_if (PW.pt (dw_or (dt_cmpW (w_neR C.toCt T F_Ratio___eq__) (v C.toCt S 4) (e_mk C.toCt S 0 T.mk_Ratio F_Ratio___init__ T.gc_Ratio (fun _ h => kb_Ratio___init___0_bottom_top h) (da_nil) (dk_cons (v C.toCt S 3) (dk_cons (v C.toCt S 2) (dk_nil)))) rfl) (dw_or1 (dt_cmpW (w_neR C.toCt T F_Ratio___eq__) (v C.toCt S 4) (e_mk C.toCt S 0 T.mk_Ratio F_Ratio___init__ T.gc_Ratio (fun _ h => kb_Ratio___init___2 h) (da_cons rfl (v C.toCt S 2) (da_cons rfl (v C.toCt S 3) (da_nil))) (dk_nil)) rfl)))) (dss_one (ds_ret (de_bl))) (dss_nil)) (dss_cons (ds_if (PW.pt (dw_or (dt_cmpW (w_neR C.toCt T F_Ratio___eq__) (e_mk C.toCt S 0 T.mk_Ratio F_Ratio___init__ T.gc_Ratio (fun _ h => kb_Ratio___init___0_top h) (da_nil) (dk_cons (v C.toCt S 2) (dk_nil))) (e_mk C.toCt S 0 T.mk_Ratio F_Ratio___init__ T.gc_Ratio (fun _ h => kb_Ratio___init___2 h) (da_cons rfl (v C.toCt S 2) (da_cons rfl (de_int) (da_nil))) (dk_nil)) rfl) (dw_or1 (dt_cmpW (w_neR C.toCt T F_Ratio___eq__) (e_cm C.toCt 0 T.cr_Ratio T.cm_Ratio_of F_Ratio_of (fun _ h => kb_Ratio_of_0_number h) (e_cls C.toCt S 0 T.gc_Ratio) (da_nil) (dk_cons (v C.toCt S 0) (dk_nil))) (v C.toCt S 0) rfl)))) (dss_one (ds_ret (de_bl))) (dss_nil)) (dss_cons (ds_if (PW.pt (dw_or (dt_cmp o_notB (e_dk C.toCt S 1 F_is_number T.gd_is_number (fun _ h => kb_is_number_0_value h) (da_nil) (dk_cons (v C.toCt S 0) (dk_nil))) (de_bl) rfl) (dw_or1 (dt_cmpW (w_neR C.toCt T F_Ratio___eq__) (e_me C.toCt 0 T.cl_Ratio T.me_Ratio_is_below F_Ratio_is_below (fun _ h => kb_Ratio_is_below_0_other h) (v C.toCt S 0) (da_nil) (dk_cons (v C.toCt S 1) (dk_nil))) (e_me C.toCt 0 T.cl_Ratio T.me_Ratio_is_below F_Ratio_is_below (fun _ h => kb_Ratio_is_below_1 h) (v C.toCt S 0) (da_cons rfl (v C.toCt S 1) (da_nil)) (dk_nil)) rfl)))) (dss_one (ds_ret (de_bl))) (dss_nil)) (dss_cons (ds_if (PW.pt (dw_and (dt_cmpW (w_neR C.toCt T F_Ratio___eq__) (e_pr C.toCt (pt_one T.cl_Ratio T.pr_Ratio_sign F_Ratio_sign) (v C.toCt S 1)) (de_int) rfl) (dw_and1 (dt_cmpW (w_neR C.toCt T F_Ratio___eq__) (e_me C.toCt 0 T.cl_Ratio T.me_Ratio_over F_Ratio_over (fun _ h => kb_Ratio_over_0_other h) (v C.toCt S 0) (da_nil) (dk_cons (v C.toCt S 1) (dk_nil))) (e_me C.toCt 0 T.cl_Ratio T.me_Ratio_over F_Ratio_over (fun _ h => kb_Ratio_over_1 h) (v C.toCt S 0) (da_cons rfl (v C.toCt S 1) (da_nil)) (dk_nil)) rfl)))) (dss_one (ds_ret (de_bl))) (dss_nil)) (dss_one (ds_ret (de_and (de_cmpW (w_neR C.toCt T F_Ratio___eq__) (v C.toCt S 0) (de_lst (da_cons rfl (v C.toCt S 0) (da_nil))) rfl) (de_and (de_not (de_cmpW (w_eqR C.toCt T F_Ratio___eq__) (v C.toCt S 0) (e_strO C.toCt S 2 (own_of T.cl_Ratio T.me_Ratio___str__ F_Ratio___str__ rfl) (T.nb 9 (by decide)) (da_cons rfl (v C.toCt S 0) (da_nil))) rfl)) (de_one (de_cmpW (w_eqR C.toCt T F_Ratio___eq__) (v C.toCt S 0) (e_me C.toCt 0 T.cl_Ratio T.me_Ratio_over F_Ratio_over (fun _ h => kb_Ratio_over_1 h) (v C.toCt S 0) (da_cons rfl (de_int) (da_nil)) (dk_nil)) rfl))))))))))
theorem ok_is_cut (T : Txt K mg base cl) (F_is_number : Df P w K mg base cl 3 "is_number" "is_number" (st_is_number) [] (He.ga K "is_number") ["value"] m_is_number) {fd : FuncData} (F : FunD K "is_cut" "is_cut" (defArgs st_is_cut) (defBody st_is_cut) (defScope st_is_cut) [] [] (He.ga K "is_cut") fd) : Df P w K mg base cl 4 "is_cut" "is_cut" (st_is_cut) [] (He.ga K "is_cut") ["value"] m_is_cut := by
  unfold m_is_cut
  exact
  fn_u (N := ["value"]) (k := 3) (st := st_is_cut) F ⟨rfl, rfl, rfl, by decide +kernel, rfl, by decide +kernel, by decide +kernel⟩ (fun _ _ _ _ _ _ us h => match us, h with | [_], _ => rfl) fun cdv A outer s H E C =>
    have S := C.toCt.seen (U := [0]) (L := []) (G := ["isinstance", "tuple", "len", "is_number", "bool"]) (by decide +kernel)
    dss_one (ds_ret (de_and (e_blt C.toCt S 0 (c_isD T.KF T.TK) (T.nb 7 (by decide)) bt_isinstance (da_cons rfl (v C.toCt S 0) (da_cons rfl (e_ty C.toCt S 1 (T.nb 10 (by decide)) bt_tuple) (da_nil)))) (de_and (de_cmp (o_eqP C.toCt.room.units) (e_blt C.toCt S 2 c_len (T.nb 0 (by decide)) bt_len (da_cons rfl (v C.toCt S 0) (da_nil))) (de_int) rfl) (de_and (e_dp C.toCt S 3 F_is_number T.gd_is_number (da_cons rfl (de_ix (v C.toCt S 0) (de_int) rfl) (da_nil))) (de_one (e_blt C.toCt S 0 (c_isD T.KF T.TK) (T.nb 7 (by decide)) bt_isinstance (da_cons rfl (de_ix (v C.toCt S 0) (de_int) rfl) (da_cons rfl (e_ty C.toCt S 4 (T.nb 8 (by decide)) bt_bool) (da_nil)))))))))
theorem ok_require_cut (T : Txt K mg base cl) (F_is_cut : Df P w K mg base cl 4 "is_cut" "is_cut" (st_is_cut) [] (He.ga K "is_cut") ["value"] m_is_cut) {fd : FuncData} (F : FunD K "require_cut" "require_cut" (defArgs st_require_cut) (defBody st_require_cut) (defScope st_require_cut) [] [] (He.ga K "require_cut") fd) : Df P w K mg base cl 5 "require_cut" "require_cut" (st_require_cut) [] (He.ga K "require_cut") ["value"] m_require_cut := by
  unfold m_require_cut
  exact
  fn_u (N := ["value"]) (k := 4) (st := st_require_cut) F ⟨rfl, rfl, rfl, by decide +kernel, rfl, by decide +kernel, by decide +kernel⟩ (fun _ _ _ _ _ _ us h => match us, h with | [_], _ => rfl) fun cdv A outer s H E C =>
    have S := C.toCt.seen (U := [0]) (L := []) (G := ["is_cut"]) (by decide +kernel)
    dss_one (ds_if (dt_not (dt_tru rfl (e_dp C.toCt S 0 F_is_cut T.gd_is_cut (da_cons rfl (v C.toCt S 0) (da_nil))))) (dss_one (ds_bad)) (dss_nil))
theorem ok_is_beyond (T : Txt K mg base cl) (F_Ratio_of : Df P w K mg base cl 5 "of" "Ratio.of" (st_Ratio_of) [] (He5.wf K (cl 0) "classmethod" "of") ["cls", "number"] m_Ratio_of) (F_is_less : Df P w K mg base cl 3 "is_less" "is_less" (st_is_less) [] (He.ga K "is_less") ["one", "other"] m_is_less) (F_Ratio___eq__ : Df P w K mg base cl 2 "__eq__" "Ratio.__eq__" (st_Ratio___eq__) [] (He.ma K (cl 0) "__eq__") ["self", "other"] m_Ratio___eq__) {fd : FuncData} (F : FunD K "is_beyond" "is_beyond" (defArgs st_is_beyond) (defBody st_is_beyond) (defScope st_is_beyond) [] [] (He.ga K "is_beyond") fd) : Df P w K mg base cl 7 "is_beyond" "is_beyond" (st_is_beyond) [] (He.ga K "is_beyond") ["number", "cut"] m_is_beyond := by
  unfold m_is_beyond
  exact
  fn_u (N := ["number", "cut", "ratio", "limit"]) (k := 6) (st := st_is_beyond) F ⟨rfl, rfl, rfl, by decide +kernel, rfl, by decide +kernel, by decide +kernel⟩ (fun _ _ _ _ _ _ us h => match us, h with | [_, _], _ => rfl) fun cdv A outer s H E C =>
    have S := C.toCt.seen (U := [0, 1, 3, 2]) (L := []) (G := ["Ratio", "is_less"]) (by decide +kernel)
    dss_cons (s_par2 C 2 3 (da_cons rfl (e_cm C.toCt 0 T.cr_Ratio T.cm_Ratio_of F_Ratio_of (fun _ h => kb_Ratio_of_1 h) (e_cls C.toCt S 0 T.gc_Ratio) (da_cons rfl (v C.toCt S 0) (da_nil)) (dk_nil)) (da_cons rfl (e_cm C.toCt 0 T.cr_Ratio T.cm_Ratio_of F_Ratio_of (fun _ h => kb_Ratio_of_1 h) (e_cls C.toCt S 0 T.gc_Ratio) (da_cons rfl (de_ix (v C.toCt S 1) (de_int) rfl) (da_nil)) (dk_nil)) (da_nil))) (by decide +kernel) (by decide +kernel) rfl) (dss_one (ds_ret (de_or (e_dp C.toCt S 1 F_is_less T.gd_is_less (da_cons rfl (v C.toCt S 3) (da_cons rfl (v C.toCt S 2) (da_nil)))) (de_one (de_and (de_cmpW (w_eqR C.toCt T F_Ratio___eq__) (v C.toCt S 2) (v C.toCt S 3) rfl) (de_one (de_not (de_ix (v C.toCt S 1) (de_int) rfl))))))))
theorem ok_is_above (T : Txt K mg base cl) (F_require_number : Df P w K mg base cl 4 "require_number" "require_number" (st_require_number) [] (He.ga K "require_number") ["value"] m_require_number) (F_require_cut : Df P w K mg base cl 5 "require_cut" "require_cut" (st_require_cut) [] (He.ga K "require_cut") ["value"] m_require_cut) (F_is_beyond : Df P w K mg base cl 7 "is_beyond" "is_beyond" (st_is_beyond) [] (He.ga K "is_beyond") ["number", "cut"] m_is_beyond) {fd : FuncData} (F : FunD K "is_above" "is_above" (defArgs st_is_above) (defBody st_is_above) (defScope st_is_above) [] [] (He.ga K "is_above") fd) : Df P w K mg base cl 8 "is_above" "is_above" (st_is_above) [] (He.ga K "is_above") ["number", "cut"] m_is_above := by
  unfold m_is_above
  exact
  fn_u (N := ["number", "cut"]) (k := 7) (st := st_is_above) F ⟨rfl, rfl, rfl, by decide +kernel, rfl, by decide +kernel, by decide +kernel⟩ (fun _ _ _ _ _ _ us h => match us, h with | [_, _], _ => rfl) fun cdv A outer s H E C =>
    have S := C.toCt.seen (U := [0, 1]) (L := []) (G := ["require_number", "require_cut", "is_beyond"]) (by decide +kernel)
    dss_cons (ds_drop rfl (e_dp C.toCt S 0 F_require_number T.gd_require_number (da_cons rfl (v C.toCt S 0) (da_nil)))) (dss_cons (ds_drop rfl (e_dp C.toCt S 1 F_require_cut T.gd_require_cut (da_cons rfl (v C.toCt S 1) (da_nil)))) (dss_one (ds_ret (e_dp C.toCt S 2 F_is_beyond T.gd_is_beyond (da_cons rfl (v C.toCt S 0) (da_cons rfl (v C.toCt S 1) (da_nil)))))))
theorem ok_is_first (T : Txt K mg base cl) (F_Ratio_of : Df P w K mg base cl 5 "of" "Ratio.of" (st_Ratio_of) [] (He5.wf K (cl 0) "classmethod" "of") ["cls", "number"] m_Ratio_of) (F_is_less : Df P w K mg base cl 3 "is_less" "is_less" (st_is_less) [] (He.ga K "is_less") ["one", "other"] m_is_less) (F_Ratio___eq__ : Df P w K mg base cl 2 "__eq__" "Ratio.__eq__" (st_Ratio___eq__) [] (He.ma K (cl 0) "__eq__") ["self", "other"] m_Ratio___eq__) {fd : FuncData} (F : FunD K "is_first" "is_first" (defArgs st_is_first) (defBody st_is_first) (defScope st_is_first) [] [] (He.ga K "is_first") fd) : Df P w K mg base cl 7 "is_first" "is_first" (st_is_first) [] (He.ga K "is_first") ["one", "other"] m_is_first := by
  unfold m_is_first
  exact
  fn_u (N := ["one", "other", "number", "beside"]) (k := 6) (st := st_is_first) F ⟨rfl, rfl, rfl, by decide +kernel, rfl, by decide +kernel, by decide +kernel⟩ (fun _ _ _ _ _ _ us h => match us, h with | [_, _], _ => rfl) fun cdv A outer s H E C =>
    have S := C.toCt.seen (U := [0, 1, 2, 3]) (L := []) (G := ["Ratio", "is_less"]) (by decide +kernel)
    dss_cons (s_par2 C 2 3 (da_cons rfl (e_cm C.toCt 0 T.cr_Ratio T.cm_Ratio_of F_Ratio_of (fun _ h => kb_Ratio_of_1 h) (e_cls C.toCt S 0 T.gc_Ratio) (da_cons rfl (de_ix (v C.toCt S 0) (de_int) rfl) (da_nil)) (dk_nil)) (da_cons rfl (e_cm C.toCt 0 T.cr_Ratio T.cm_Ratio_of F_Ratio_of (fun _ h => kb_Ratio_of_1 h) (e_cls C.toCt S 0 T.gc_Ratio) (da_cons rfl (de_ix (v C.toCt S 1) (de_int) rfl) (da_nil)) (dk_nil)) (da_nil))) (by decide +kernel) (by decide +kernel) rfl) (dss_one (ds_ret (de_or (e_dp C.toCt S 1 F_is_less T.gd_is_less (da_cons rfl (v C.toCt S 2) (da_cons rfl (v C.toCt S 3) (da_nil)))) (de_one (de_and (de_cmpW (w_eqR C.toCt T F_Ratio___eq__) (v C.toCt S 2) (v C.toCt S 3) rfl) (de_and (de_ix (v C.toCt S 1) (de_int) rfl) (de_one (de_not (de_ix (v C.toCt S 0) (de_int) rfl)))))))))
theorem ok_is_ahead (T : Txt K mg base cl) (F_require_cut : Df P w K mg base cl 5 "require_cut" "require_cut" (st_require_cut) [] (He.ga K "require_cut") ["value"] m_require_cut) (F_is_first : Df P w K mg base cl 7 "is_first" "is_first" (st_is_first) [] (He.ga K "is_first") ["one", "other"] m_is_first) {fd : FuncData} (F : FunD K "is_ahead" "is_ahead" (defArgs st_is_ahead) (defBody st_is_ahead) (defScope st_is_ahead) [] [] (He.ga K "is_ahead") fd) : Df P w K mg base cl 8 "is_ahead" "is_ahead" (st_is_ahead) [] (He.ga K "is_ahead") ["one", "other"] m_is_ahead := by
  unfold m_is_ahead
  exact
  fn_u (N := ["one", "other"]) (k := 7) (st := st_is_ahead) F ⟨rfl, rfl, rfl, by decide +kernel, rfl, by decide +kernel, by decide +kernel⟩ (fun _ _ _ _ _ _ us h => match us, h with | [_, _], _ => rfl) fun cdv A outer s H E C =>
    have S := C.toCt.seen (U := [0, 1]) (L := []) (G := ["require_cut", "is_first"]) (by decide +kernel)
    dss_cons (ds_drop rfl (e_dp C.toCt S 0 F_require_cut T.gd_require_cut (da_cons rfl (v C.toCt S 0) (da_nil)))) (dss_cons (ds_drop rfl (e_dp C.toCt S 0 F_require_cut T.gd_require_cut (da_cons rfl (v C.toCt S 1) (da_nil)))) (dss_one (ds_ret (e_dp C.toCt S 1 F_is_first T.gd_is_first (da_cons rfl (v C.toCt S 0) (da_cons rfl (v C.toCt S 1) (da_nil)))))))
theorem ok_is_stretch (T : Txt K mg base cl) (F_is_cut : Df P w K mg base cl 4 "is_cut" "is_cut" (st_is_cut) [] (He.ga K "is_cut") ["value"] m_is_cut) (F_is_first : Df P w K mg base cl 7 "is_first" "is_first" (st_is_first) [] (He.ga K "is_first") ["one", "other"] m_is_first) {fd : FuncData} (F : FunD K "is_stretch" "is_stretch" (defArgs st_is_stretch) (defBody st_is_stretch) (defScope st_is_stretch) [] [] (He.ga K "is_stretch") fd) : Df P w K mg base cl 8 "is_stretch" "is_stretch" (st_is_stretch) [] (He.ga K "is_stretch") ["value"] m_is_stretch := by
  unfold m_is_stretch
  exact
  fn_u (N := ["value", "is_pair"]) (k := 7) (st := st_is_stretch) F ⟨rfl, rfl, rfl, by decide +kernel, rfl, by decide +kernel, by decide +kernel⟩ (fun _ _ _ _ _ _ us h => match us, h with | [_], _ => rfl) fun cdv A outer s H E C =>
    have S := C.toCt.seen (U := [0, 1]) (L := [1]) (G := ["isinstance", "tuple", "len", "is_cut", "is_first"]) (by decide +kernel)
    dss_cons (s_set C S 1 (de_and (e_blt C.toCt S 0 (c_isD T.KF T.TK) (T.nb 7 (by decide)) bt_isinstance (da_cons rfl (v C.toCt S 0) (da_cons rfl (e_ty C.toCt S 1 (T.nb 10 (by decide)) bt_tuple) (da_nil)))) (de_and (de_cmp (o_eqP C.toCt.room.units) (e_blt C.toCt S 2 c_len (T.nb 0 (by decide)) bt_len (da_cons rfl (v C.toCt S 0) (da_nil))) (de_int) rfl) (de_and (e_dp C.toCt S 3 F_is_cut T.gd_is_cut (da_cons rfl (de_ix (v C.toCt S 0) (de_int) rfl) (da_nil))) (de_one (e_dp C.toCt S 3 F_is_cut T.gd_is_cut (da_cons rfl (de_ix (v C.toCt S 0) (de_int) rfl) (da_nil)))))))) (dss_one (ds_ret (de_and (v C.toCt S 1) (de_one (e_dp C.toCt S 4 F_is_first T.gd_is_first (da_cons rfl (de_ix (v C.toCt S 0) (de_int) rfl) (da_cons rfl (de_ix (v C.toCt S 0) (de_int) rfl) (da_nil))))))))
theorem ok_require_stretch (T : Txt K mg base cl) (F_is_stretch : Df P w K mg base cl 8 "is_stretch" "is_stretch" (st_is_stretch) [] (He.ga K "is_stretch") ["value"] m_is_stretch) {fd : FuncData} (F : FunD K "require_stretch" "require_stretch" (defArgs st_require_stretch) (defBody st_require_stretch) (defScope st_require_stretch) [] [] (He.ga K "require_stretch") fd) : Df P w K mg base cl 9 "require_stretch" "require_stretch" (st_require_stretch) [] (He.ga K "require_stretch") ["value"] m_require_stretch := by
  unfold m_require_stretch
  exact
  fn_u (N := ["value"]) (k := 8) (st := st_require_stretch) F ⟨rfl, rfl, rfl, by decide +kernel, rfl, by decide +kernel, by decide +kernel⟩ (fun _ _ _ _ _ _ us h => match us, h with | [_], _ => rfl) fun cdv A outer s H E C =>
    have S := C.toCt.seen (U := [0]) (L := []) (G := ["is_stretch"]) (by decide +kernel)
    dss_one (ds_if (dt_not (dt_tru rfl (e_dp C.toCt S 0 F_is_stretch T.gd_is_stretch (da_cons rfl (v C.toCt S 0) (da_nil))))) (dss_one (ds_bad)) (dss_nil))
theorem ok_Ratio___add__ (T : Txt K mg base cl) (F_Ratio_of : Df P w K mg base cl 5 "of" "Ratio.of" (st_Ratio_of) [] (He5.wf K (cl 0) "classmethod" "of") ["cls", "number"] m_Ratio_of) (F_Ratio___init__ : Df P w K mg base cl 3 "__init__" "Ratio.__init__" (st_Ratio___init__) [V.int 1] (He.ma K (cl 0) "__init__") ["self", "top", "bottom"] m_Ratio___init__) {fd : FuncData} (F : FunD K "__add__" "Ratio.__add__" (defArgs st_Ratio___add__) (defBody st_Ratio___add__) (defScope st_Ratio___add__) [] [] (He.ma K (cl 0) "__add__") fd) : Df P w K mg base cl 6 "__add__" "Ratio.__add__" (st_Ratio___add__) [] (He.ma K (cl 0) "__add__") ["self", "other"] m_Ratio___add__ := by
  unfold m_Ratio___add__
  exact
  fn_u (N := ["self", "other", "beside", "top"]) (k := 5) (st := st_Ratio___add__) F ⟨rfl, rfl, rfl, by decide +kernel, rfl, by decide +kernel, by decide +kernel⟩ (fun _ _ _ _ _ _ us h => match us, h with | [_, _], _ => rfl) fun cdv A outer s H E C =>
    have S := C.toCt.seen (U := [1, 0, 2, 3]) (L := [2, 3]) (G := ["Ratio"]) (by decide +kernel)
    dss_cons (s_set C S 2 (e_cm C.toCt 0 T.cr_Ratio T.cm_Ratio_of F_Ratio_of (fun _ h => kb_Ratio_of_1 h) (e_cls C.toCt S 0 T.gc_Ratio) (da_cons rfl (v C.toCt S 1) (da_nil)) (dk_nil))) (dss_cons (s_set C S 3 (de_bin o_add (de_bin o_mul (e_fl T.fl_own_top (v C.toCt S 0)) (e_fl T.fl_own_bottom (v C.toCt S 2))) (de_bin o_mul (e_fl T.fl_own_top (v C.toCt S 2)) (e_fl T.fl_own_bottom (v C.toCt S 0))))) (dss_one (ds_ret (e_mk C.toCt S 0 T.mk_Ratio F_Ratio___init__ T.gc_Ratio (fun _ h => kb_Ratio___init___2 h) (da_cons rfl (v C.toCt S 3) (da_cons rfl (de_bin o_mul (e_fl T.fl_own_bottom (v C.toCt S 0)) (e_fl T.fl_own_bottom (v C.toCt S 2))) (da_nil))) (dk_nil)))))
theorem ok_mark_of (T : Txt K mg base cl) (F_require_stretch : Df P w K mg base cl 9 "require_stretch" "require_stretch" (st_require_stretch) [] (He.ga K "require_stretch") ["value"] m_require_stretch) (F_Ratio_of : Df P w K mg base cl 5 "of" "Ratio.of" (st_Ratio_of) [] (He5.wf K (cl 0) "classmethod" "of") ["cls", "number"] m_Ratio_of) (F_Ratio_over : Df P w K mg base cl 6 "over" "Ratio.over" (st_Ratio_over) [] (He.ma K (cl 0) "over") ["self", "other"] m_Ratio_over) (F_Ratio___add__ : Df P w K mg base cl 6 "__add__" "Ratio.__add__" (st_Ratio___add__) [] (He.ma K (cl 0) "__add__") ["self", "other"] m_Ratio___add__) {fd : FuncData} (F : FunD K "mark_of" "mark_of" (defArgs st_mark_of) (defBody st_mark_of) (defScope st_mark_of) [] [] (He.ga K "mark_of") fd) : Df P w K mg base cl 10 "mark_of" "mark_of" (st_mark_of) [] (He.ga K "mark_of") ["stretch"] m_mark_of := by
  unfold m_mark_of
  exact
  fn_u (N := ["stretch", "first", "is_open", "second", "is_closed"]) (k := 9) (st := st_mark_of) F ⟨rfl, rfl, rfl, by decide +kernel, rfl, by decide +kernel, by decide +kernel⟩ (fun _ _ _ _ _ _ us h => match us, h with | [_], _ => rfl) fun cdv A outer s H E C =>
    have S := C.toCt.seen (U := [0, 2, 4, 3, 1]) (L := [1, 2, 3, 4]) (G := ["require_stretch", "Ratio"]) (by decide +kernel)
    dss_cons (ds_drop rfl (e_dp C.toCt S 0 F_require_stretch T.gd_require_stretch (da_cons rfl (v C.toCt S 0) (da_nil)))) (dss_cons (ds_asg rfl rfl rfl (v C.toCt S 0) (dg_tup C.toCt.calm rfl (dgs_cons rfl (dg_tup C.toCt.calm rfl (dgs_cons rfl (g_set C S 1) (dgs_cons rfl (g_set C S 2) (dgs_nil)))) (dgs_cons rfl (dg_tup C.toCt.calm rfl (dgs_cons rfl (g_set C S 3) (dgs_cons rfl (g_set C S 4) (dgs_nil)))) (dgs_nil))))) (dss_cons (ds_if (PW.pt (dw_or (dt_not (dt_tru rfl (v C.toCt S 2))) (dw_or1 (dt_tru rfl (v C.toCt S 4))))) (dss_one (ds_ret (e_cm C.toCt 0 T.cr_Ratio T.cm_Ratio_of F_Ratio_of (fun _ h => kb_Ratio_of_1 h) (e_cls C.toCt S 1 T.gc_Ratio) (da_cons rfl (de_if (dt_tru rfl (v C.toCt S 2)) (v C.toCt S 3) (v C.toCt S 1)) (da_nil)) (dk_nil)))) (dss_nil)) (dss_one (ds_ret (e_me C.toCt 0 T.cl_Ratio T.me_Ratio_over F_Ratio_over (fun _ h => kb_Ratio_over_1 h) (de_two (w_addU C.toCt T F_Ratio___add__) (e_cm C.toCt 0 T.cr_Ratio T.cm_Ratio_of F_Ratio_of (fun _ h => kb_Ratio_of_1 h) (e_cls C.toCt S 1 T.gc_Ratio) (da_cons rfl (v C.toCt S 1) (da_nil)) (dk_nil)) (v C.toCt S 3)) (da_cons rfl (de_int) (da_nil)) (dk_nil))))))
theorem ok_is_within (T : Txt K mg base cl) (F_require_number : Df P w K mg base cl 4 "require_number" "require_number" (st_require_number) [] (He.ga K "require_number") ["value"] m_require_number) (F_require_stretch : Df P w K mg base cl 9 "require_stretch" "require_stretch" (st_require_stretch) [] (He.ga K "require_stretch") ["value"] m_require_stretch) (F_is_beyond : Df P w K mg base cl 7 "is_beyond" "is_beyond" (st_is_beyond) [] (He.ga K "is_beyond") ["number", "cut"] m_is_beyond) {fd : FuncData} (F : FunD K "is_within" "is_within" (defArgs st_is_within) (defBody st_is_within) (defScope st_is_within) [] [] (He.ga K "is_within") fd) : Df P w K mg base cl 10 "is_within" "is_within" (st_is_within) [] (He.ga K "is_within") ["number", "stretch"] m_is_within := by
  unfold m_is_within
  exact
  fn_u (N := ["number", "stretch"]) (k := 9) (st := st_is_within) F ⟨rfl, rfl, rfl, by decide +kernel, rfl, by decide +kernel, by decide +kernel⟩ (fun _ _ _ _ _ _ us h => match us, h with | [_, _], _ => rfl) fun cdv A outer s H E C =>
    have S := C.toCt.seen (U := [0, 1]) (L := []) (G := ["require_number", "require_stretch", "is_beyond"]) (by decide +kernel)
    dss_cons (ds_drop rfl (e_dp C.toCt S 0 F_require_number T.gd_require_number (da_cons rfl (v C.toCt S 0) (da_nil)))) (dss_cons (ds_drop rfl (e_dp C.toCt S 1 F_require_stretch T.gd_require_stretch (da_cons rfl (v C.toCt S 1) (da_nil)))) (dss_one (ds_ret (de_and (e_dp C.toCt S 2 F_is_beyond T.gd_is_beyond (da_cons rfl (v C.toCt S 0) (da_cons rfl (de_ix (v C.toCt S 1) (de_int) rfl) (da_nil)))) (de_one (de_not (e_dp C.toCt S 2 F_is_beyond T.gd_is_beyond (da_cons rfl (v C.toCt S 0) (da_cons rfl (de_ix (v C.toCt S 1) (de_int) rfl) (da_nil))))))))))
theorem ok__law_cuts_right (T : Txt K mg base cl) (F_Ratio___eq__ : Df P w K mg base cl 2 "__eq__" "Ratio.__eq__" (st_Ratio___eq__) [] (He.ma K (cl 0) "__eq__") ["self", "other"] m_Ratio___eq__) (F_is_cut : Df P w K mg base cl 4 "is_cut" "is_cut" (st_is_cut) [] (He.ga K "is_cut") ["value"] m_is_cut) (F_is_above : Df P w K mg base cl 8 "is_above" "is_above" (st_is_above) [] (He.ga K "is_above") ["number", "cut"] m_is_above) (F_is_ahead : Df P w K mg base cl 8 "is_ahead" "is_ahead" (st_is_ahead) [] (He.ga K "is_ahead") ["one", "other"] m_is_ahead) (F_is_stretch : Df P w K mg base cl 8 "is_stretch" "is_stretch" (st_is_stretch) [] (He.ga K "is_stretch") ["value"] m_is_stretch) (F_mark_of : Df P w K mg base cl 10 "mark_of" "mark_of" (st_mark_of) [] (He.ga K "mark_of") ["stretch"] m_mark_of) (F_is_within : Df P w K mg base cl 10 "is_within" "is_within" (st_is_within) [] (He.ga K "is_within") ["number", "stretch"] m_is_within) {fd : FuncData} (F : FunD K "_law_cuts_right" "_law_cuts_right" (defArgs st__law_cuts_right) (defBody st__law_cuts_right) (defScope st__law_cuts_right) [] [] (He.ga K "_law_cuts_right") fd) : Df P w K mg base cl 11 "_law_cuts_right" "_law_cuts_right" (st__law_cuts_right) [] (He.ga K "_law_cuts_right") ["_law_first", "_law_second", "_law_flags"] m__law_cuts_right := by
  unfold m__law_cuts_right
  exact
  fn_u (N := ["_law_first", "_law_second", "_law_flags", "_law_ordered", "_law_mark", "_law_rival"]) (k := 10) (st := st__law_cuts_right) F ⟨rfl, rfl, rfl, by decide +kernel, rfl, by decide +kernel, by decide +kernel⟩ (fun _ _ _ _ _ _ us h => match us, h with | [_, _, _], _ => rfl) fun cdv A outer s H E C =>
    have S := C.toCt.seen (U := [0, 2, 1, 4, 5, 3]) (L := [3]) (G := ["is_cut", "is_above", "is_ahead", "is_stretch", "mark_of", "is_within"]) (by decide +kernel)
    dss_cons (s_par2 C 4 5 (da_cons rfl (de_tup (da_cons rfl (v C.toCt S 0) (da_cons rfl (de_ix (v C.toCt S 2) (de_int) rfl) (da_nil)))) (da_cons rfl (de_tup (da_cons rfl (v C.toCt S 1) (da_cons rfl (de_ix (v C.toCt S 2) (de_int) rfl) (da_nil)))) (da_nil))) (by decide +kernel) (by decide +kernel) rfl) (dss_cons (ds_if (dt_cmpW (w_neT C.toCt T F_Ratio___eq__) (de_lst (da_cons rfl (e_dk C.toCt S 0 F_is_cut T.gd_is_cut (fun _ h => kb_is_cut_0_value h) (da_nil) (dk_cons (v C.toCt S 4) (dk_nil))) (da_cons rfl (e_dk C.toCt S 1 F_is_above T.gd_is_above (fun _ h => kb_is_above_0_cut_number h) (da_nil) (dk_cons (v C.toCt S 4) (dk_cons (v C.toCt S 1) (dk_nil)))) (da_nil)))) (de_lst (da_cons rfl (de_bl) (da_cons rfl (e_dp C.toCt S 1 F_is_above T.gd_is_above (da_cons rfl (v C.toCt S 1) (da_cons rfl (v C.toCt S 4) (da_nil)))) (da_nil)))) rfl) (dss_one (ds_ret (de_bl))) (dss_nil)) (dss_cons (ds_if (dt_cmpW (w_neT C.toCt T F_Ratio___eq__) (e_dk C.toCt S 2 F_is_ahead T.gd_is_ahead (fun _ h => kb_is_ahead_0_other_one h) (da_nil) (dk_cons (v C.toCt S 5) (dk_cons (v C.toCt S 4) (dk_nil)))) (e_dp C.toCt S 2 F_is_ahead T.gd_is_ahead (da_cons rfl (v C.toCt S 4) (da_cons rfl (v C.toCt S 5) (da_nil)))) rfl) (dss_one (ds_ret (de_bl))) (dss_nil)) (dss_cons (s_set C S 3 (de_if (dt_tru rfl (e_dp C.toCt S 2 F_is_ahead T.gd_is_ahead (da_cons rfl (v C.toCt S 4) (da_cons rfl (v C.toCt S 5) (da_nil))))) (de_tup (da_cons rfl (v C.toCt S 4) (da_cons rfl (v C.toCt S 5) (da_nil)))) (de_tup (da_cons rfl (v C.toCt S 5) (da_cons rfl (v C.toCt S 4) (da_nil)))))) (dss_cons (ds_if (dt_cmpW (w_eqT C.toCt T F_Ratio___eq__) (v C.toCt S 4) (v C.toCt S 5) rfl) (dss_one (ds_ret (de_cmp o_isB (e_dk C.toCt S 3 F_is_stretch T.gd_is_stretch (fun _ h => kb_is_stretch_0_value h) (da_nil) (dk_cons (v C.toCt S 3) (dk_nil))) (de_bl) rfl))) (dss_nil)) (dss_cons (ds_if (PW.pt (dw_or (dt_cmp o_notB (e_dk C.toCt S 3 F_is_stretch T.gd_is_stretch (fun _ h => kb_is_stretch_0_value h) (da_nil) (dk_cons (v C.toCt S 3) (dk_nil))) (de_bl) rfl) (dw_or1 (dt_cmpW (w_neT C.toCt T F_Ratio___eq__) (e_dk C.toCt S 4 F_mark_of T.gd_mark_of (fun _ h => kb_mark_of_0_stretch h) (da_nil) (dk_cons (v C.toCt S 3) (dk_nil))) (e_dp C.toCt S 4 F_mark_of T.gd_mark_of (da_cons rfl (v C.toCt S 3) (da_nil))) rfl)))) (dss_one (ds_ret (de_bl))) (dss_nil)) (dss_one (ds_ret (de_cmpW (w_eqT C.toCt T F_Ratio___eq__) (e_dk C.toCt S 5 F_is_within T.gd_is_within (fun _ h => kb_is_within_0_stretch_number h) (da_nil) (dk_cons (v C.toCt S 3) (dk_cons (v C.toCt S 0) (dk_nil)))) (e_dp C.toCt S 5 F_is_within T.gd_is_within (da_cons rfl (v C.toCt S 0) (da_cons rfl (v C.toCt S 3) (da_nil)))) rfl))))))))
theorem ok_Range___init__ (T : Txt K mg base cl) (F_require_number : Df P w K mg base cl 4 "require_number" "require_number" (st_require_number) [] (He.ga K "require_number") ["value"] m_require_number) (F_is_less : Df P w K mg base cl 3 "is_less" "is_less" (st_is_less) [] (He.ga K "is_less") ["one", "other"] m_is_less) (F_Ratio_of : Df P w K mg base cl 5 "of" "Ratio.of" (st_Ratio_of) [] (He5.wf K (cl 0) "classmethod" "of") ["cls", "number"] m_Ratio_of) {fd : FuncData} (F : FunD K "__init__" "Range.__init__" (defArgs st_Range___init__) (defBody st_Range___init__) (defScope st_Range___init__) [] [] (He.ma K (cl 1) "__init__") fd) : Df P w K mg base cl 6 "__init__" "Range.__init__" (st_Range___init__) [] (He.ma K (cl 1) "__init__") ["self", "low", "high"] m_Range___init__ := by
  unfold m_Range___init__
  exact
  fn_u (N := ["self", "low", "high"]) (k := 5) (st := st_Range___init__) F ⟨rfl, rfl, rfl, by decide +kernel, rfl, by decide +kernel, by decide +kernel⟩ (fun _ _ _ _ _ _ us h => match us, h with | [_, _, _], _ => rfl) fun cdv A outer s H E C =>
    have S := C.toCt.seen (U := [1, 2, 0]) (L := []) (G := ["require_number", "is_less", "Ratio"]) (by decide +kernel)
    dss_cons (ds_drop rfl (e_dp C.toCt S 0 F_require_number T.gd_require_number (da_cons rfl (v C.toCt S 1) (da_nil)))) (dss_cons (ds_drop rfl (e_dp C.toCt S 0 F_require_number T.gd_require_number (da_cons rfl (v C.toCt S 2) (da_nil)))) (dss_cons (ds_if (dt_tru rfl (e_dp C.toCt S 1 F_is_less T.gd_is_less (da_cons rfl (e_cm C.toCt 0 T.cr_Ratio T.cm_Ratio_of F_Ratio_of (fun _ h => kb_Ratio_of_1 h) (e_cls C.toCt S 2 T.gc_Ratio) (da_cons rfl (v C.toCt S 2) (da_nil)) (dk_nil)) (da_cons rfl (e_cm C.toCt 0 T.cr_Ratio T.cm_Ratio_of F_Ratio_of (fun _ h => kb_Ratio_of_1 h) (e_cls C.toCt S 2 T.gc_Ratio) (da_cons rfl (v C.toCt S 1) (da_nil)) (dk_nil)) (da_nil))))) (dss_one (ds_bad)) (dss_nil)) (dss_cons (s_fl T.fl_own_low (v C.toCt S 0) (e_cm C.toCt 0 T.cr_Ratio T.cm_Ratio_of F_Ratio_of (fun _ h => kb_Ratio_of_1 h) (e_cls C.toCt S 2 T.gc_Ratio) (da_cons rfl (v C.toCt S 1) (da_nil)) (dk_nil))) (dss_one (s_fl T.fl_own_high (v C.toCt S 0) (e_cm C.toCt 0 T.cr_Ratio T.cm_Ratio_of F_Ratio_of (fun _ h => kb_Ratio_of_1 h) (e_cls C.toCt S 2 T.gc_Ratio) (da_cons rfl (v C.toCt S 2) (da_nil)) (dk_nil)))))))
theorem ok_Range_outer (T : Txt K mg base cl) {fd : FuncData} (F : FunD K "outer" "Range.outer" (defArgs st_Range_outer) (defBody st_Range_outer) (defScope st_Range_outer) [] [] (He.ma K (cl 1) "outer") fd) : Df P w K mg base cl 1 "outer" "Range.outer" (st_Range_outer) [] (He.ma K (cl 1) "outer") ["self"] m_Range_outer := by
  unfold m_Range_outer
  exact
  fn_u (N := ["self"]) (k := 0) (st := st_Range_outer) F ⟨rfl, rfl, rfl, by decide +kernel, rfl, by decide +kernel, by decide +kernel⟩ (fun _ _ _ _ _ _ us h => match us, h with | [_], _ => rfl) fun cdv A outer s H E C =>
    have S := C.toCt.seen (U := [0]) (L := []) (G := []) (by decide +kernel)
    dss_one (ds_ret (de_tup (da_cons rfl (de_tup (da_cons rfl (e_fl T.fl_own_low (v C.toCt S 0)) (da_cons rfl (de_bl) (da_nil)))) (da_cons rfl (de_tup (da_cons rfl (e_fl T.fl_own_high (v C.toCt S 0)) (da_cons rfl (de_bl) (da_nil)))) (da_nil)))))
theorem ok_Range_is_inner (T : Txt K mg base cl) (F_require_cut : Df P w K mg base cl 5 "require_cut" "require_cut" (st_require_cut) [] (He.ga K "require_cut") ["value"] m_require_cut) (F_Range_outer : Df P w K mg base cl 1 "outer" "Range.outer" (st_Range_outer) [] (He.ma K (cl 1) "outer") ["self"] m_Range_outer) (F_is_first : Df P w K mg base cl 7 "is_first" "is_first" (st_is_first) [] (He.ga K "is_first") ["one", "other"] m_is_first) {fd : FuncData} (F : FunD K "is_inner" "Range.is_inner" (defArgs st_Range_is_inner) (defBody st_Range_is_inner) (defScope st_Range_is_inner) [] [] (He.ma K (cl 1) "is_inner") fd) : Df P w K mg base cl 8 "is_inner" "Range.is_inner" (st_Range_is_inner) [] (He.ma K (cl 1) "is_inner") ["self", "cut"] m_Range_is_inner := by
  unfold m_Range_is_inner
  exact
  fn_u (N := ["self", "cut", "first", "second"]) (k := 7) (st := st_Range_is_inner) F ⟨rfl, rfl, rfl, by decide +kernel, rfl, by decide +kernel, by decide +kernel⟩ (fun _ _ _ _ _ _ us h => match us, h with | [_, _], _ => rfl) fun cdv A outer s H E C =>
    have S := C.toCt.seen (U := [1, 0, 2, 3]) (L := [2, 3]) (G := ["require_cut", "is_first"]) (by decide +kernel)
    dss_cons (ds_drop rfl (e_dp C.toCt S 0 F_require_cut T.gd_require_cut (da_cons rfl (v C.toCt S 1) (da_nil)))) (dss_cons (ds_asg rfl rfl rfl (e_me C.toCt 1 T.cl_Range T.me_Range_outer F_Range_outer (fun _ h => kb_Range_outer_0 h) (v C.toCt S 0) (da_nil) (dk_nil)) (dg_tup C.toCt.calm rfl (dgs_cons rfl (g_set C S 2) (dgs_cons rfl (g_set C S 3) (dgs_nil))))) (dss_one (ds_ret (de_and (e_dp C.toCt S 1 F_is_first T.gd_is_first (da_cons rfl (v C.toCt S 2) (da_cons rfl (v C.toCt S 1) (da_nil)))) (de_one (e_dp C.toCt S 1 F_is_first T.gd_is_first (da_cons rfl (v C.toCt S 1) (da_cons rfl (v C.toCt S 3) (da_nil)))))))))
theorem ok_as_cut (T : Txt K mg base cl) (F_Ratio_of : Df P w K mg base cl 5 "of" "Ratio.of" (st_Ratio_of) [] (He5.wf K (cl 0) "classmethod" "of") ["cls", "number"] m_Ratio_of) {fd : FuncData} (F : FunD K "as_cut" "as_cut" (defArgs st_as_cut) (defBody st_as_cut) (defScope st_as_cut) [] [] (He.ga K "as_cut") fd) : Df P w K mg base cl 6 "as_cut" "as_cut" (st_as_cut) [] (He.ga K "as_cut") ["cut"] m_as_cut := by
  unfold m_as_cut
  exact
  fn_u (N := ["cut"]) (k := 5) (st := st_as_cut) F ⟨rfl, rfl, rfl, by decide +kernel, rfl, by decide +kernel, by decide +kernel⟩ (fun _ _ _ _ _ _ us h => match us, h with | [_], _ => rfl) fun cdv A outer s H E C =>
    have S := C.toCt.seen (U := [0]) (L := []) (G := ["Ratio"]) (by decide +kernel)
    dss_one (ds_ret (de_tup (da_cons rfl (e_cm C.toCt 0 T.cr_Ratio T.cm_Ratio_of F_Ratio_of (fun _ h => kb_Ratio_of_1 h) (e_cls C.toCt S 0 T.gc_Ratio) (da_cons rfl (de_ix (v C.toCt S 0) (de_int) rfl) (da_nil)) (dk_nil)) (da_cons rfl (de_ix (v C.toCt S 0) (de_int) rfl) (da_nil)))))
theorem ok_Range_fit (T : Txt K mg base cl) (F_require_cut : Df P w K mg base cl 5 "require_cut" "require_cut" (st_require_cut) [] (He.ga K "require_cut") ["value"] m_require_cut) (F_Range_outer : Df P w K mg base cl 1 "outer" "Range.outer" (st_Range_outer) [] (He.ma K (cl 1) "outer") ["self"] m_Range_outer) (F_is_first : Df P w K mg base cl 7 "is_first" "is_first" (st_is_first) [] (He.ga K "is_first") ["one", "other"] m_is_first) (F_as_cut : Df P w K mg base cl 6 "as_cut" "as_cut" (st_as_cut) [] (He.ga K "as_cut") ["cut"] m_as_cut) {fd : FuncData} (F : FunD K "fit" "Range.fit" (defArgs st_Range_fit) (defBody st_Range_fit) (defScope st_Range_fit) [] [] (He.ma K (cl 1) "fit") fd) : Df P w K mg base cl 8 "fit" "Range.fit" (st_Range_fit) [] (He.ma K (cl 1) "fit") ["self", "cut"] m_Range_fit := by
  unfold m_Range_fit
  exact
  fn_u (N := ["self", "cut", "first", "second"]) (k := 7) (st := st_Range_fit) F ⟨rfl, rfl, rfl, by decide +kernel, rfl, by decide +kernel, by decide +kernel⟩ (fun _ _ _ _ _ _ us h => match us, h with | [_, _], _ => rfl) fun cdv A outer s H E C =>
    have S := C.toCt.seen (U := [1, 0, 2, 3]) (L := [2, 3]) (G := ["require_cut", "is_first", "as_cut"]) (by decide +kernel)
    dss_cons (ds_drop rfl (e_dp C.toCt S 0 F_require_cut T.gd_require_cut (da_cons rfl (v C.toCt S 1) (da_nil)))) (dss_cons (ds_asg rfl rfl rfl (e_me C.toCt 1 T.cl_Range T.me_Range_outer F_Range_outer (fun _ h => kb_Range_outer_0 h) (v C.toCt S 0) (da_nil) (dk_nil)) (dg_tup C.toCt.calm rfl (dgs_cons rfl (g_set C S 2) (dgs_cons rfl (g_set C S 3) (dgs_nil))))) (dss_cons (ds_if (dt_not (dt_tru rfl (e_dp C.toCt S 1 F_is_first T.gd_is_first (da_cons rfl (v C.toCt S 2) (da_cons rfl (v C.toCt S 1) (da_nil)))))) (dss_one (ds_ret (v C.toCt S 2))) (dss_nil)) (dss_one (ds_ret (de_if (dt_tru rfl (e_dp C.toCt S 1 F_is_first T.gd_is_first (da_cons rfl (v C.toCt S 1) (da_cons rfl (v C.toCt S 3) (da_nil))))) (e_dp C.toCt S 2 F_as_cut T.gd_as_cut (da_cons rfl (v C.toCt S 1) (da_nil))) (v C.toCt S 3))))))
theorem ok_Range_has_stretch (T : Txt K mg base cl) (F_Range_outer : Df P w K mg base cl 1 "outer" "Range.outer" (st_Range_outer) [] (He.ma K (cl 1) "outer") ["self"] m_Range_outer) (F_is_stretch : Df P w K mg base cl 8 "is_stretch" "is_stretch" (st_is_stretch) [] (He.ga K "is_stretch") ["value"] m_is_stretch) (F_is_first : Df P w K mg base cl 7 "is_first" "is_first" (st_is_first) [] (He.ga K "is_first") ["one", "other"] m_is_first) {fd : FuncData} (F : FunD K "has_stretch" "Range.has_stretch" (defArgs st_Range_has_stretch) (defBody st_Range_has_stretch) (defScope st_Range_has_stretch) [] [] (He.ma K (cl 1) "has_stretch") fd) : Df P w K mg base cl 9 "has_stretch" "Range.has_stretch" (st_Range_has_stretch) [] (He.ma K (cl 1) "has_stretch") ["self", "value"] m_Range_has_stretch := by
  unfold m_Range_has_stretch
  exact
  fn_u (N := ["self", "value", "first", "second"]) (k := 8) (st := st_Range_has_stretch) F ⟨rfl, rfl, rfl, by decide +kernel, rfl, by decide +kernel, by decide +kernel⟩ (fun _ _ _ _ _ _ us h => match us, h with | [_, _], _ => rfl) fun cdv A outer s H E C =>
    have S := C.toCt.seen (U := [0, 1, 2, 3]) (L := [2, 3]) (G := ["is_stretch", "is_first"]) (by decide +kernel)
    dss_cons (ds_asg rfl rfl rfl (e_me C.toCt 1 T.cl_Range T.me_Range_outer F_Range_outer (fun _ h => kb_Range_outer_0 h) (v C.toCt S 0) (da_nil) (dk_nil)) (dg_tup C.toCt.calm rfl (dgs_cons rfl (g_set C S 2) (dgs_cons rfl (g_set C S 3) (dgs_nil))))) (dss_one (ds_ret (de_and (e_dp C.toCt S 0 F_is_stretch T.gd_is_stretch (da_cons rfl (v C.toCt S 1) (da_nil))) (de_and (de_not (e_dp C.toCt S 1 F_is_first T.gd_is_first (da_cons rfl (de_ix (v C.toCt S 1) (de_int) rfl) (da_cons rfl (v C.toCt S 2) (da_nil))))) (de_one (de_not (e_dp C.toCt S 1 F_is_first T.gd_is_first (da_cons rfl (v C.toCt S 3) (da_cons rfl (de_ix (v C.toCt S 1) (de_int) rfl) (da_nil))))))))))
theorem ok_Range_low (T : Txt K mg base cl) {fd : FuncData} (F : FunD K "low" "Range.low" (defArgs st_Range_low) (defBody st_Range_low) (defScope st_Range_low) [] [] (He5.wf K (cl 1) "property" "low") fd) : Df P w K mg base cl 1 "low" "Range.low" (st_Range_low) [] (He5.wf K (cl 1) "property" "low") ["self"] m_Range_low := by
  unfold m_Range_low
  exact
  fn_u (N := ["self"]) (k := 0) (st := st_Range_low) F ⟨rfl, rfl, rfl, by decide +kernel, rfl, by decide +kernel, by decide +kernel⟩ (fun _ _ _ _ _ _ us h => match us, h with | [_], _ => rfl) fun cdv A outer s H E C =>
    have S := C.toCt.seen (U := [0]) (L := []) (G := []) (by decide +kernel)
    dss_one (ds_ret (e_fl T.fl_own_low (v C.toCt S 0)))
theorem ok_Move_low (T : Txt K mg base cl) {fd : FuncData} (F : FunD K "low" "Move.low" (defArgs st_Move_low) (defBody st_Move_low) (defScope st_Move_low) [] [] (He5.wf K (cl 2) "property" "low") fd) : Df P w K mg base cl 1 "low" "Move.low" (st_Move_low) [] (He5.wf K (cl 2) "property" "low") ["self"] m_Move_low := by
  unfold m_Move_low
  exact
  fn_u (N := ["self"]) (k := 0) (st := st_Move_low) F ⟨rfl, rfl, rfl, by decide +kernel, rfl, by decide +kernel, by decide +kernel⟩ (fun _ _ _ _ _ _ us h => match us, h with | [_], _ => rfl) fun cdv A outer s H E C =>
    have S := C.toCt.seen (U := [0]) (L := []) (G := []) (by decide +kernel)
    dss_one (ds_ret (e_fl T.fl_own_low (v C.toCt S 0)))
theorem ok_Range_high (T : Txt K mg base cl) {fd : FuncData} (F : FunD K "high" "Range.high" (defArgs st_Range_high) (defBody st_Range_high) (defScope st_Range_high) [] [] (He5.wf K (cl 1) "property" "high") fd) : Df P w K mg base cl 1 "high" "Range.high" (st_Range_high) [] (He5.wf K (cl 1) "property" "high") ["self"] m_Range_high := by
  unfold m_Range_high
  exact
  fn_u (N := ["self"]) (k := 0) (st := st_Range_high) F ⟨rfl, rfl, rfl, by decide +kernel, rfl, by decide +kernel, by decide +kernel⟩ (fun _ _ _ _ _ _ us h => match us, h with | [_], _ => rfl) fun cdv A outer s H E C =>
    have S := C.toCt.seen (U := [0]) (L := []) (G := []) (by decide +kernel)
    dss_one (ds_ret (e_fl T.fl_own_high (v C.toCt S 0)))
theorem ok_Move_high (T : Txt K mg base cl) {fd : FuncData} (F : FunD K "high" "Move.high" (defArgs st_Move_high) (defBody st_Move_high) (defScope st_Move_high) [] [] (He5.wf K (cl 2) "property" "high") fd) : Df P w K mg base cl 1 "high" "Move.high" (st_Move_high) [] (He5.wf K (cl 2) "property" "high") ["self"] m_Move_high := by
  unfold m_Move_high
  exact
  fn_u (N := ["self"]) (k := 0) (st := st_Move_high) F ⟨rfl, rfl, rfl, by decide +kernel, rfl, by decide +kernel, by decide +kernel⟩ (fun _ _ _ _ _ _ us h => match us, h with | [_], _ => rfl) fun cdv A outer s H E C =>
    have S := C.toCt.seen (U := [0]) (L := []) (G := []) (by decide +kernel)
    dss_one (ds_ret (e_fl T.fl_own_high (v C.toCt S 0)))
theorem ok_Range___contains__ (T : Txt K mg base cl) (F_is_number : Df P w K mg base cl 3 "is_number" "is_number" (st_is_number) [] (He.ga K "is_number") ["value"] m_is_number) (F_Ratio_of : Df P w K mg base cl 5 "of" "Ratio.of" (st_Ratio_of) [] (He5.wf K (cl 0) "classmethod" "of") ["cls", "number"] m_Ratio_of) (F_is_less : Df P w K mg base cl 3 "is_less" "is_less" (st_is_less) [] (He.ga K "is_less") ["one", "other"] m_is_less) {fd : FuncData} (F : FunD K "__contains__" "Range.__contains__" (defArgs st_Range___contains__) (defBody st_Range___contains__) (defScope st_Range___contains__) [] [] (He.ma K (cl 1) "__contains__") fd) : Df P w K mg base cl 6 "__contains__" "Range.__contains__" (st_Range___contains__) [] (He.ma K (cl 1) "__contains__") ["self", "value"] m_Range___contains__ := by
  unfold m_Range___contains__
  exact
  fn_u (N := ["self", "value", "number"]) (k := 5) (st := st_Range___contains__) F ⟨rfl, rfl, rfl, by decide +kernel, rfl, by decide +kernel, by decide +kernel⟩ (fun _ _ _ _ _ _ us h => match us, h with | [_, _], _ => rfl) fun cdv A outer s H E C =>
    have S := C.toCt.seen (U := [1, 2, 0]) (L := [2]) (G := ["is_number", "Ratio", "is_less"]) (by decide +kernel)
    dss_cons (ds_if (dt_not (dt_tru rfl (e_dp C.toCt S 0 F_is_number T.gd_is_number (da_cons rfl (v C.toCt S 1) (da_nil))))) (dss_one (ds_ret (de_bl))) (dss_nil)) (dss_cons (s_set C S 2 (e_cm C.toCt 0 T.cr_Ratio T.cm_Ratio_of F_Ratio_of (fun _ h => kb_Ratio_of_1 h) (e_cls C.toCt S 1 T.gc_Ratio) (da_cons rfl (v C.toCt S 1) (da_nil)) (dk_nil))) (dss_one (ds_ret (de_and (de_not (e_dp C.toCt S 2 F_is_less T.gd_is_less (da_cons rfl (v C.toCt S 2) (da_cons rfl (e_fl T.fl_own_low (v C.toCt S 0)) (da_nil))))) (de_one (de_not (e_dp C.toCt S 2 F_is_less T.gd_is_less (da_cons rfl (e_fl T.fl_own_high (v C.toCt S 0)) (da_cons rfl (v C.toCt S 2) (da_nil))))))))))
theorem ok__law_ranges_right (T : Txt K mg base cl) (F_Ratio_is_below : Df P w K mg base cl 6 "is_below" "Ratio.is_below" (st_Ratio_is_below) [] (He.ma K (cl 0) "is_below") ["self", "other"] m_Ratio_is_below) (F_Range___init__ : Df P w K mg base cl 6 "__init__" "Range.__init__" (st_Range___init__) [] (He.ma K (cl 1) "__init__") ["self", "low", "high"] m_Range___init__) (F_Ratio___eq__ : Df P w K mg base cl 2 "__eq__" "Ratio.__eq__" (st_Ratio___eq__) [] (He.ma K (cl 0) "__eq__") ["self", "other"] m_Ratio___eq__) (F_Range___eq__ : Df P w K mg base cl 7 "__eq__" "Range.__eq__" (st_Range___eq__) [] (He.ma K (cl 1) "__eq__") ["self", "other"] m_Range___eq__) (F_Move___eq__ : Df P w K mg base cl 7 "__eq__" "Move.__eq__" (st_Move___eq__) [] (He.ma K (cl 2) "__eq__") ["self", "other"] m_Move___eq__) (F_Range_outer : Df P w K mg base cl 1 "outer" "Range.outer" (st_Range_outer) [] (He.ma K (cl 1) "outer") ["self"] m_Range_outer) (F_Range_is_inner : Df P w K mg base cl 8 "is_inner" "Range.is_inner" (st_Range_is_inner) [] (He.ma K (cl 1) "is_inner") ["self", "cut"] m_Range_is_inner) (F_Range_fit : Df P w K mg base cl 8 "fit" "Range.fit" (st_Range_fit) [] (He.ma K (cl 1) "fit") ["self", "cut"] m_Range_fit) (F_Range_has_stretch : Df P w K mg base cl 9 "has_stretch" "Range.has_stretch" (st_Range_has_stretch) [] (He.ma K (cl 1) "has_stretch") ["self", "value"] m_Range_has_stretch) (F_Range_low : Df P w K mg base cl 1 "low" "Range.low" (st_Range_low) [] (He5.wf K (cl 1) "property" "low") ["self"] m_Range_low) (F_Move_low : Df P w K mg base cl 1 "low" "Move.low" (st_Move_low) [] (He5.wf K (cl 2) "property" "low") ["self"] m_Move_low) (F_Range_high : Df P w K mg base cl 1 "high" "Range.high" (st_Range_high) [] (He5.wf K (cl 1) "property" "high") ["self"] m_Range_high) (F_Move_high : Df P w K mg base cl 1 "high" "Move.high" (st_Move_high) [] (He5.wf K (cl 2) "property" "high") ["self"] m_Move_high) (F_Range___contains__ : Df P w K mg base cl 6 "__contains__" "Range.__contains__" (st_Range___contains__) [] (He.ma K (cl 1) "__contains__") ["self", "value"] m_Range___contains__) {fd : FuncData} (F : FunD K "_law_ranges_right" "_law_ranges_right" (defArgs st__law_ranges_right) (defBody st__law_ranges_right) (defScope st__law_ranges_right) [] [] (He.ga K "_law_ranges_right") fd) : Df P w K mg base cl 12 "_law_ranges_right" "_law_ranges_right" (st__law_ranges_right) [] (He.ga K "_law_ranges_right") ["_law_first", "_law_second", "_law_flags"] m__law_ranges_right := by
  unfold m__law_ranges_right
  exact
  fn_u (N := ["_law_first", "_law_second", "_law_flags", "_law_held", "_law_spot", "_law_least", "_law_most"]) (k := 11) (st := st__law_ranges_right) F ⟨rfl, rfl, rfl, by decide +kernel, rfl, by decide +kernel, by decide +kernel⟩ (fun _ _ _ _ _ _ us h => match us, h with | [_, _, _], _ => rfl) fun cdv A outer s H E C =>
    have S := C.toCt.seen (U := [1, 0, 6, 5, 3, 2, 4]) (L := [5, 6, 3, 4]) (G := ["Range", "list"]) (by decide +kernel)
    dss_cons (ds_asg rfl rfl rfl (de_if (dt_tru rfl (e_me C.toCt 0 T.cl_Ratio T.me_Ratio_is_below F_Ratio_is_below (fun _ h => kb_Ratio_is_below_1 h) (v C.toCt S 1) (da_cons rfl (v C.toCt S 0) (da_nil)) (dk_nil))) (de_tup (da_cons rfl (v C.toCt S 1) (da_cons rfl (v C.toCt S 0) (da_nil)))) (de_tup (da_cons rfl (v C.toCt S 0) (da_cons rfl (v C.toCt S 1) (da_nil))))) (dg_tup C.toCt.calm rfl (dgs_cons rfl (g_set C S 5) (dgs_cons rfl (g_set C S 6) (dgs_nil))))) (dss_cons (s_set C S 3 (e_mk C.toCt S 0 T.mk_Range F_Range___init__ T.gc_Range (fun _ h => kb_Range___init___0_high_low h) (da_nil) (dk_cons (v C.toCt S 6) (dk_cons (v C.toCt S 5) (dk_nil))))) (dss_cons (ds_if (PW.pt (dw_or (dt_cmpW (w_neU C.toCt T F_Ratio___eq__ F_Range___eq__ F_Move___eq__) (v C.toCt S 3) (e_mk C.toCt S 0 T.mk_Range F_Range___init__ T.gc_Range (fun _ h => kb_Range___init___2 h) (da_cons rfl (v C.toCt S 5) (da_cons rfl (v C.toCt S 6) (da_nil))) (dk_nil)) rfl) (dw_or (dt_cmpW (w_eqU C.toCt T F_Ratio___eq__ F_Range___eq__ F_Move___eq__) (v C.toCt S 3) (de_tup (da_cons rfl (v C.toCt S 5) (da_cons rfl (v C.toCt S 6) (da_nil)))) rfl) (dw_or1 (dt_cmpW (w_neU C.toCt T F_Ratio___eq__ F_Range___eq__ F_Move___eq__) (e_me C.toCt 1 T.cl_Range T.me_Range_outer F_Range_outer (fun _ h => kb_Range_outer_0 h) (v C.toCt S 3) (da_nil) (dk_nil)) (e_me C.toCt 1 T.cl_Range T.me_Range_outer F_Range_outer (fun _ h => kb_Range_outer_0 h) (e_mk C.toCt S 0 T.mk_Range F_Range___init__ T.gc_Range (fun _ h => kb_Range___init___2 h) (da_cons rfl (v C.toCt S 5) (da_cons rfl (v C.toCt S 6) (da_nil))) (dk_nil)) (da_nil) (dk_nil)) rfl))))) (dss_one (ds_ret (de_bl))) (dss_nil)) (dss_cons (s_set C S 4 (de_tup (da_cons rfl (v C.toCt S 1) (da_cons rfl (de_ix (v C.toCt S 2) (de_int) rfl) (da_nil))))) (dss_cons (ds_if (PW.pt (dw_or (dt_cmpW (w_neU C.toCt T F_Ratio___eq__ F_Range___eq__ F_Move___eq__) (e_me C.toCt 1 T.cl_Range T.me_Range_is_inner F_Range_is_inner (fun _ h => kb_Range_is_inner_0_cut h) (v C.toCt S 3) (da_nil) (dk_cons (v C.toCt S 4) (dk_nil))) (e_me C.toCt 1 T.cl_Range T.me_Range_is_inner F_Range_is_inner (fun _ h => kb_Range_is_inner_1 h) (v C.toCt S 3) (da_cons rfl (v C.toCt S 4) (da_nil)) (dk_nil)) rfl) (dw_or1 (dt_cmpW (w_neU C.toCt T F_Ratio___eq__ F_Range___eq__ F_Move___eq__) (e_me C.toCt 1 T.cl_Range T.me_Range_fit F_Range_fit (fun _ h => kb_Range_fit_0_cut h) (v C.toCt S 3) (da_nil) (dk_cons (v C.toCt S 4) (dk_nil))) (e_me C.toCt 1 T.cl_Range T.me_Range_fit F_Range_fit (fun _ h => kb_Range_fit_1 h) (v C.toCt S 3) (da_cons rfl (v C.toCt S 4) (da_nil)) (dk_nil)) rfl)))) (dss_one (ds_ret (de_bl))) (dss_nil)) (dss_cons (ds_if (PW.pt (dw_or (dt_cmp o_notB (e_me C.toCt 1 T.cl_Range T.me_Range_has_stretch F_Range_has_stretch (fun _ h => kb_Range_has_stretch_0_value h) (v C.toCt S 3) (da_nil) (dk_cons (e_me C.toCt 1 T.cl_Range T.me_Range_outer F_Range_outer (fun _ h => kb_Range_outer_0 h) (v C.toCt S 3) (da_nil) (dk_nil)) (dk_nil))) (de_bl) rfl) (dw_or1 (dt_cmp o_notB (e_me C.toCt 1 T.cl_Range T.me_Range_has_stretch F_Range_has_stretch (fun _ h => kb_Range_has_stretch_0_value h) (v C.toCt S 3) (da_nil) (dk_cons (e_bty C.toCt S 1 c_list (T.nb 11 (by decide)) bt_list (da_cons rfl (e_me C.toCt 1 T.cl_Range T.me_Range_outer F_Range_outer (fun _ h => kb_Range_outer_0 h) (v C.toCt S 3) (da_nil) (dk_nil)) (da_nil))) (dk_nil))) (de_bl) rfl)))) (dss_one (ds_ret (de_bl))) (dss_nil)) (dss_one (ds_ret (de_and (de_cmpW (w_eqU C.toCt T F_Ratio___eq__ F_Range___eq__ F_Move___eq__) (de_lst (da_cons rfl (e_pr C.toCt (pt_two (k' := 1) (pt_one T.cl_Range T.pr_Range_low F_Range_low) (pt_one T.cl_Move T.pr_Move_low F_Move_low) (by decide) (by decide)) (v C.toCt S 3)) (da_cons rfl (e_pr C.toCt (pt_two (k' := 1) (pt_one T.cl_Range T.pr_Range_high F_Range_high) (pt_one T.cl_Move T.pr_Move_high F_Move_high) (by decide) (by decide)) (v C.toCt S 3)) (da_nil)))) (de_lst (da_cons rfl (v C.toCt S 5) (da_cons rfl (v C.toCt S 6) (da_nil)))) rfl) (de_and (de_cmpW (ow_in (own_of T.cl_Range T.me_Range___contains__ F_Range___contains__ rfl) (C.toCt.room.mono (by decide)) C.toCt.grd C.toCt.tk) (v C.toCt S 5) (v C.toCt S 3) rfl) (de_and (de_cmpW (ow_in (own_of T.cl_Range T.me_Range___contains__ F_Range___contains__ rfl) (C.toCt.room.mono (by decide)) C.toCt.grd C.toCt.tk) (v C.toCt S 6) (v C.toCt S 3) rfl) (de_one (de_not (de_cmpW (w_eqU C.toCt T F_Ratio___eq__ F_Range___eq__ F_Move___eq__) (v C.toCt S 3) (e_me C.toCt 1 T.cl_Range T.me_Range_outer F_Range_outer (fun _ h => kb_Range_outer_0 h) (v C.toCt S 3) (da_nil) (dk_nil)) rfl)))))))))))))
theorem ok_Move___init__ (T : Txt K mg base cl) (F_is_integer : Df P w K mg base cl 2 "is_integer" "is_integer" (st_is_integer) [] (He.ga K "is_integer") ["value"] m_is_integer) (F_is_number : Df P w K mg base cl 3 "is_number" "is_number" (st_is_number) [] (He.ga K "is_number") ["value"] m_is_number) (F_is_less : Df P w K mg base cl 3 "is_less" "is_less" (st_is_less) [] (He.ga K "is_less") ["one", "other"] m_is_less) (F_Ratio_of : Df P w K mg base cl 5 "of" "Ratio.of" (st_Ratio_of) [] (He5.wf K (cl 0) "classmethod" "of") ["cls", "number"] m_Ratio_of) {fd : FuncData} (F : FunD K "__init__" "Move.__init__" (defArgs st_Move___init__) (defBody st_Move___init__) (defScope st_Move___init__) [] [] (He.ma K (cl 2) "__init__") fd) : Df P w K mg base cl 6 "__init__" "Move.__init__" (st_Move___init__) [] (He.ma K (cl 2) "__init__") ["self", "divisor", "plus", "low", "high"] m_Move___init__ := by
  unfold m_Move___init__
  exact
  fn_u (N := ["self", "divisor", "plus", "low", "high", "part", "number"]) (k := 5) (st := st_Move___init__) F ⟨rfl, rfl, rfl, by decide +kernel, rfl, by decide +kernel, by decide +kernel⟩ (fun _ _ _ _ _ _ us h => match us, h with | [_, _, _, _, _], _ => rfl) fun cdv A outer s H E C =>
    have S := C.toCt.seen (U := [1, 2, 3, 4, 6, 0]) (L := [5, 6]) (G := ["is_integer", "is_number", "is_less", "Ratio"]) (by decide +kernel)
    dss_cons (ds_if (PW.pt (dw_or (dt_not (dt_tru rfl (e_dp C.toCt S 0 F_is_integer T.gd_is_integer (da_cons rfl (v C.toCt S 1) (da_nil))))) (dw_or1 (dt_cmp o_ltI (v C.toCt S 1) (de_int) rfl)))) (dss_one (ds_bad)) (dss_nil)) (dss_cons (s_for C (di_seq (de_tup (da_cons rfl (de_tup (da_cons rfl (de_str) (da_cons rfl (v C.toCt S 2) (da_nil)))) (da_cons rfl (de_tup (da_cons rfl (de_str) (da_cons rfl (v C.toCt S 3) (da_nil)))) (da_cons rfl (de_tup (da_cons rfl (de_str) (da_cons rfl (v C.toCt S 4) (da_nil)))) (da_nil)))))) (dg_tup C.toCt.calm rfl (dgs_cons rfl (g_set C S 5) (dgs_cons rfl (g_set C S 6) (dgs_nil)))) (dss_one (ds_if (dt_not (dt_tru rfl (e_dp C.toCt S 1 F_is_number T.gd_is_number (da_cons rfl (v C.toCt S 6) (da_nil))))) (dss_one (ds_bad)) (dss_nil)))) (dss_cons (ds_if (dt_tru rfl (e_dp C.toCt S 2 F_is_less T.gd_is_less (da_cons rfl (e_cm C.toCt 0 T.cr_Ratio T.cm_Ratio_of F_Ratio_of (fun _ h => kb_Ratio_of_1 h) (e_cls C.toCt S 3 T.gc_Ratio) (da_cons rfl (v C.toCt S 4) (da_nil)) (dk_nil)) (da_cons rfl (e_cm C.toCt 0 T.cr_Ratio T.cm_Ratio_of F_Ratio_of (fun _ h => kb_Ratio_of_1 h) (e_cls C.toCt S 3 T.gc_Ratio) (da_cons rfl (v C.toCt S 3) (da_nil)) (dk_nil)) (da_nil))))) (dss_one (ds_bad)) (dss_nil)) (dss_cons (s_fl T.fl_own_divisor (v C.toCt S 0) (v C.toCt S 1)) (dss_cons (s_fl T.fl_own_plus (v C.toCt S 0) (e_cm C.toCt 0 T.cr_Ratio T.cm_Ratio_of F_Ratio_of (fun _ h => kb_Ratio_of_1 h) (e_cls C.toCt S 3 T.gc_Ratio) (da_cons rfl (v C.toCt S 2) (da_nil)) (dk_nil))) (dss_cons (s_fl T.fl_own_low (v C.toCt S 0) (e_cm C.toCt 0 T.cr_Ratio T.cm_Ratio_of F_Ratio_of (fun _ h => kb_Ratio_of_1 h) (e_cls C.toCt S 3 T.gc_Ratio) (da_cons rfl (v C.toCt S 3) (da_nil)) (dk_nil))) (dss_one (s_fl T.fl_own_high (v C.toCt S 0) (e_cm C.toCt 0 T.cr_Ratio T.cm_Ratio_of F_Ratio_of (fun _ h => kb_Ratio_of_1 h) (e_cls C.toCt S 3 T.gc_Ratio) (da_cons rfl (v C.toCt S 4) (da_nil)) (dk_nil)))))))))
theorem ok_Move_divisor (T : Txt K mg base cl) {fd : FuncData} (F : FunD K "divisor" "Move.divisor" (defArgs st_Move_divisor) (defBody st_Move_divisor) (defScope st_Move_divisor) [] [] (He5.wf K (cl 2) "property" "divisor") fd) : Df P w K mg base cl 1 "divisor" "Move.divisor" (st_Move_divisor) [] (He5.wf K (cl 2) "property" "divisor") ["self"] m_Move_divisor := by
  unfold m_Move_divisor
  exact
  fn_u (N := ["self"]) (k := 0) (st := st_Move_divisor) F ⟨rfl, rfl, rfl, by decide +kernel, rfl, by decide +kernel, by decide +kernel⟩ (fun _ _ _ _ _ _ us h => match us, h with | [_], _ => rfl) fun cdv A outer s H E C =>
    have S := C.toCt.seen (U := [0]) (L := []) (G := []) (by decide +kernel)
    dss_one (ds_ret (e_fl T.fl_own_divisor (v C.toCt S 0)))
theorem ok_Move_plus (T : Txt K mg base cl) {fd : FuncData} (F : FunD K "plus" "Move.plus" (defArgs st_Move_plus) (defBody st_Move_plus) (defScope st_Move_plus) [] [] (He5.wf K (cl 2) "property" "plus") fd) : Df P w K mg base cl 1 "plus" "Move.plus" (st_Move_plus) [] (He5.wf K (cl 2) "property" "plus") ["self"] m_Move_plus := by
  unfold m_Move_plus
  exact
  fn_u (N := ["self"]) (k := 0) (st := st_Move_plus) F ⟨rfl, rfl, rfl, by decide +kernel, rfl, by decide +kernel, by decide +kernel⟩ (fun _ _ _ _ _ _ us h => match us, h with | [_], _ => rfl) fun cdv A outer s H E C =>
    have S := C.toCt.seen (U := [0]) (L := []) (G := []) (by decide +kernel)
    dss_one (ds_ret (e_fl T.fl_own_plus (v C.toCt S 0)))
theorem ok_extreme_of (T : Txt K mg base cl) (F_Ratio_of : Df P w K mg base cl 5 "of" "Ratio.of" (st_Ratio_of) [] (He5.wf K (cl 0) "classmethod" "of") ["cls", "number"] m_Ratio_of) (F_is_less : Df P w K mg base cl 3 "is_less" "is_less" (st_is_less) [] (He.ga K "is_less") ["one", "other"] m_is_less) {fd : FuncData} (F : FunD K "extreme_of" "extreme_of" (defArgs st_extreme_of) (defBody st_extreme_of) (defScope st_extreme_of) [] [] (He.ga K "extreme_of") fd) : Df P w K mg base cl 6 "extreme_of" "extreme_of" (st_extreme_of) [] (He.ga K "extreme_of") ["numbers", "is_least"] m_extreme_of := by
  unfold m_extreme_of
  exact
  fn_u (N := ["numbers", "is_least", "found", "number", "ratio"]) (k := 5) (st := st_extreme_of) F ⟨rfl, rfl, rfl, by decide +kernel, rfl, by decide +kernel, by decide +kernel⟩ (fun _ _ _ _ _ _ us h => match us, h with | [_, _], _ => rfl) fun cdv A outer s H E C =>
    have S := C.toCt.seen (U := [0, 3, 1, 4, 2]) (L := [2, 3, 4]) (G := ["len", "Ratio", "is_less"]) (by decide +kernel)
    dss_cons (ds_if (dt_cmp (o_eqP C.toCt.room.units) (e_blt C.toCt S 0 c_len (T.nb 0 (by decide)) bt_len (da_cons rfl (v C.toCt S 0) (da_nil))) (de_int) rfl) (dss_one (ds_bad)) (dss_nil)) (dss_cons (s_set C S 2 (e_cm C.toCt 0 T.cr_Ratio T.cm_Ratio_of F_Ratio_of (fun _ h => kb_Ratio_of_1 h) (e_cls C.toCt S 1 T.gc_Ratio) (da_cons rfl (de_ix (v C.toCt S 0) (de_int) rfl) (da_nil)) (dk_nil))) (dss_cons (s_for C (di_seq (v C.toCt S 0)) (g_set C S 3) (dss_cons (s_set C S 4 (e_cm C.toCt 0 T.cr_Ratio T.cm_Ratio_of F_Ratio_of (fun _ h => kb_Ratio_of_1 h) (e_cls C.toCt S 1 T.gc_Ratio) (da_cons rfl (v C.toCt S 3) (da_nil)) (dk_nil))) (dss_one (ds_if (dt_if (dt_tru rfl (v C.toCt S 1)) (dt_tru rfl (e_dp C.toCt S 2 F_is_less T.gd_is_less (da_cons rfl (v C.toCt S 4) (da_cons rfl (v C.toCt S 2) (da_nil))))) (dt_tru rfl (e_dp C.toCt S 2 F_is_less T.gd_is_less (da_cons rfl (v C.toCt S 2) (da_cons rfl (v C.toCt S 4) (da_nil)))))) (dss_one (s_set C S 2 (v C.toCt S 4))) (dss_nil))))) (dss_one (ds_ret (v C.toCt S 2)))))
theorem ok_Ratio_least (T : Txt K mg base cl) (F_extreme_of : Df P w K mg base cl 6 "extreme_of" "extreme_of" (st_extreme_of) [] (He.ga K "extreme_of") ["numbers", "is_least"] m_extreme_of) {fd : FuncData} (F : FunD K "least" "Ratio.least" (defArgs st_Ratio_least) (defBody st_Ratio_least) (defScope st_Ratio_least) [] [] (He5.wf K (cl 0) "classmethod" "least") fd) : GsOk P w K mg base cl 7 (He5.wf K (cl 0) "classmethod" "least") 1 m_Ratio_least := by
  unfold m_Ratio_least
  exact
  fn_s (N := ["cls", "numbers"]) (k := 6) (st := st_Ratio_least) (ps := ["cls"]) (pv := "numbers") F ⟨rfl, rfl, rfl, by decide +kernel, rfl, by decide +kernel, by decide +kernel⟩ (fun _ _ _ _ _ _ us rest h => match us, rest, h with | [_], [], _ => rfl | [_], _ :: _, _ => rfl) fun cdv A outer s H E C =>
    have S := C.toCt.seen (U := [1]) (L := []) (G := ["extreme_of"]) (by decide +kernel)
    dss_one (ds_ret (e_dp C.toCt S 0 F_extreme_of T.gd_extreme_of (da_cons rfl (v C.toCt S 1) (da_cons rfl (de_bl) (da_nil)))))
theorem ok_Ratio_greatest (T : Txt K mg base cl) (F_extreme_of : Df P w K mg base cl 6 "extreme_of" "extreme_of" (st_extreme_of) [] (He.ga K "extreme_of") ["numbers", "is_least"] m_extreme_of) {fd : FuncData} (F : FunD K "greatest" "Ratio.greatest" (defArgs st_Ratio_greatest) (defBody st_Ratio_greatest) (defScope st_Ratio_greatest) [] [] (He5.wf K (cl 0) "classmethod" "greatest") fd) : GsOk P w K mg base cl 7 (He5.wf K (cl 0) "classmethod" "greatest") 1 m_Ratio_greatest := by
  unfold m_Ratio_greatest
  exact
  fn_s (N := ["cls", "numbers"]) (k := 6) (st := st_Ratio_greatest) (ps := ["cls"]) (pv := "numbers") F ⟨rfl, rfl, rfl, by decide +kernel, rfl, by decide +kernel, by decide +kernel⟩ (fun _ _ _ _ _ _ us rest h => match us, rest, h with | [_], [], _ => rfl | [_], _ :: _, _ => rfl) fun cdv A outer s H E C =>
    have S := C.toCt.seen (U := [1]) (L := []) (G := ["extreme_of"]) (by decide +kernel)
    dss_one (ds_ret (e_dp C.toCt S 0 F_extreme_of T.gd_extreme_of (da_cons rfl (v C.toCt S 1) (da_cons rfl (de_bl) (da_nil)))))
theorem ok_Move_held (T : Txt K mg base cl) (F_Ratio_least : GsOk P w K mg base cl 7 (He5.wf K (cl 0) "classmethod" "least") 1 m_Ratio_least) (F_Ratio_greatest : GsOk P w K mg base cl 7 (He5.wf K (cl 0) "classmethod" "greatest") 1 m_Ratio_greatest) {fd : FuncData} (F : FunD K "held" "Move.held" (defArgs st_Move_held) (defBody st_Move_held) (defScope st_Move_held) [] [] (He.ma K (cl 2) "held") fd) : Df P w K mg base cl 8 "held" "Move.held" (st_Move_held) [] (He.ma K (cl 2) "held") ["self", "number"] m_Move_held := by
  unfold m_Move_held
  exact
  fn_u (N := ["self", "number"]) (k := 7) (st := st_Move_held) F ⟨rfl, rfl, rfl, by decide +kernel, rfl, by decide +kernel, by decide +kernel⟩ (fun _ _ _ _ _ _ us h => match us, h with | [_, _], _ => rfl) fun cdv A outer s H E C =>
    have S := C.toCt.seen (U := [0, 1]) (L := []) (G := ["Ratio"]) (by decide +kernel)
    dss_one (ds_ret (e_cs C.toCt 0 T.cr_Ratio T.cm_Ratio_least F_Ratio_least (e_cls C.toCt S 0 T.gc_Ratio) (da_cons rfl (e_fl T.fl_own_high (v C.toCt S 0)) (da_cons rfl (e_cs C.toCt 0 T.cr_Ratio T.cm_Ratio_greatest F_Ratio_greatest (e_cls C.toCt S 0 T.gc_Ratio) (da_cons rfl (e_fl T.fl_own_low (v C.toCt S 0)) (da_cons rfl (v C.toCt S 1) (da_nil)))) (da_nil)))))
theorem ok_Move_free (T : Txt K mg base cl) (F_Ratio_over : Df P w K mg base cl 6 "over" "Ratio.over" (st_Ratio_over) [] (He.ma K (cl 0) "over") ["self", "other"] m_Ratio_over) (F_Ratio_of : Df P w K mg base cl 5 "of" "Ratio.of" (st_Ratio_of) [] (He5.wf K (cl 0) "classmethod" "of") ["cls", "number"] m_Ratio_of) (F_Ratio___add__ : Df P w K mg base cl 6 "__add__" "Ratio.__add__" (st_Ratio___add__) [] (He.ma K (cl 0) "__add__") ["self", "other"] m_Ratio___add__) {fd : FuncData} (F : FunD K "free" "Move.free" (defArgs st_Move_free) (defBody st_Move_free) (defScope st_Move_free) [] [] (He.ma K (cl 2) "free") fd) : Df P w K mg base cl 7 "free" "Move.free" (st_Move_free) [] (He.ma K (cl 2) "free") ["self", "number"] m_Move_free := by
  unfold m_Move_free
  exact
  fn_u (N := ["self", "number"]) (k := 6) (st := st_Move_free) F ⟨rfl, rfl, rfl, by decide +kernel, rfl, by decide +kernel, by decide +kernel⟩ (fun _ _ _ _ _ _ us h => match us, h with | [_, _], _ => rfl) fun cdv A outer s H E C =>
    have S := C.toCt.seen (U := [1, 0]) (L := []) (G := ["Ratio"]) (by decide +kernel)
    dss_one (ds_ret (e_me C.toCt 0 T.cl_Ratio T.me_Ratio_over F_Ratio_over (fun _ h => kb_Ratio_over_1 h) (de_two (w_addU C.toCt T F_Ratio___add__) (e_cm C.toCt 0 T.cr_Ratio T.cm_Ratio_of F_Ratio_of (fun _ h => kb_Ratio_of_1 h) (e_cls C.toCt S 0 T.gc_Ratio) (da_cons rfl (v C.toCt S 1) (da_nil)) (dk_nil)) (e_fl T.fl_own_plus (v C.toCt S 0))) (da_cons rfl (e_fl T.fl_own_divisor (v C.toCt S 0)) (da_nil)) (dk_nil)))
theorem ok_Move_at (T : Txt K mg base cl) (F_require_number : Df P w K mg base cl 4 "require_number" "require_number" (st_require_number) [] (He.ga K "require_number") ["value"] m_require_number) (F_Move_held : Df P w K mg base cl 8 "held" "Move.held" (st_Move_held) [] (He.ma K (cl 2) "held") ["self", "number"] m_Move_held) (F_Move_free : Df P w K mg base cl 7 "free" "Move.free" (st_Move_free) [] (He.ma K (cl 2) "free") ["self", "number"] m_Move_free) {fd : FuncData} (F : FunD K "at" "Move.at" (defArgs st_Move_at) (defBody st_Move_at) (defScope st_Move_at) [] [] (He.ma K (cl 2) "at") fd) : Df P w K mg base cl 9 "at" "Move.at" (st_Move_at) [] (He.ma K (cl 2) "at") ["self", "number"] m_Move_at := by
  unfold m_Move_at
  exact
  fn_u (N := ["self", "number"]) (k := 8) (st := st_Move_at) F ⟨rfl, rfl, rfl, by decide +kernel, rfl, by decide +kernel, by decide +kernel⟩ (fun _ _ _ _ _ _ us h => match us, h with | [_, _], _ => rfl) fun cdv A outer s H E C =>
    have S := C.toCt.seen (U := [1, 0]) (L := []) (G := ["require_number"]) (by decide +kernel)
    dss_cons (ds_drop rfl (e_dp C.toCt S 0 F_require_number T.gd_require_number (da_cons rfl (v C.toCt S 1) (da_nil)))) (dss_one (ds_ret (e_me C.toCt 2 T.cl_Move T.me_Move_held F_Move_held (fun _ h => kb_Move_held_1 h) (v C.toCt S 0) (da_cons rfl (e_me C.toCt 2 T.cl_Move T.me_Move_free F_Move_free (fun _ h => kb_Move_free_1 h) (v C.toCt S 0) (da_cons rfl (v C.toCt S 1) (da_nil)) (dk_nil)) (da_nil)) (dk_nil))))
theorem ok_require_move (T : Txt K mg base cl) {fd : FuncData} (F : FunD K "require_move" "require_move" (defArgs st_require_move) (defBody st_require_move) (defScope st_require_move) [] [] (He.ga K "require_move") fd) : Df P w K mg base cl 2 "require_move" "require_move" (st_require_move) [] (He.ga K "require_move") ["value"] m_require_move := by
  unfold m_require_move
  exact
  fn_u (N := ["value"]) (k := 1) (st := st_require_move) F ⟨rfl, rfl, rfl, by decide +kernel, rfl, by decide +kernel, by decide +kernel⟩ (fun _ _ _ _ _ _ us h => match us, h with | [_], _ => rfl) fun cdv A outer s H E C =>
    have S := C.toCt.seen (U := [0]) (L := []) (G := ["isinstance", "Move"]) (by decide +kernel)
    dss_one (ds_if (dt_not (dt_tru rfl (e_blt C.toCt S 0 (c_isD T.KF T.TK) (T.nb 7 (by decide)) bt_isinstance (da_cons rfl (v C.toCt S 0) (da_cons rfl (e_cls C.toCt S 1 T.gc_Move) (da_nil)))))) (dss_one (ds_bad)) (dss_nil))
theorem ok_Ratio___mul__ (T : Txt K mg base cl) (F_Ratio_of : Df P w K mg base cl 5 "of" "Ratio.of" (st_Ratio_of) [] (He5.wf K (cl 0) "classmethod" "of") ["cls", "number"] m_Ratio_of) (F_Ratio___init__ : Df P w K mg base cl 3 "__init__" "Ratio.__init__" (st_Ratio___init__) [V.int 1] (He.ma K (cl 0) "__init__") ["self", "top", "bottom"] m_Ratio___init__) {fd : FuncData} (F : FunD K "__mul__" "Ratio.__mul__" (defArgs st_Ratio___mul__) (defBody st_Ratio___mul__) (defScope st_Ratio___mul__) [] [] (He.ma K (cl 0) "__mul__") fd) : Df P w K mg base cl 6 "__mul__" "Ratio.__mul__" (st_Ratio___mul__) [] (He.ma K (cl 0) "__mul__") ["self", "other"] m_Ratio___mul__ := by
  unfold m_Ratio___mul__
  exact
  fn_u (N := ["self", "other", "beside"]) (k := 5) (st := st_Ratio___mul__) F ⟨rfl, rfl, rfl, by decide +kernel, rfl, by decide +kernel, by decide +kernel⟩ (fun _ _ _ _ _ _ us h => match us, h with | [_, _], _ => rfl) fun cdv A outer s H E C =>
    have S := C.toCt.seen (U := [1, 0, 2]) (L := [2]) (G := ["Ratio"]) (by decide +kernel)
    dss_cons (s_set C S 2 (e_cm C.toCt 0 T.cr_Ratio T.cm_Ratio_of F_Ratio_of (fun _ h => kb_Ratio_of_1 h) (e_cls C.toCt S 0 T.gc_Ratio) (da_cons rfl (v C.toCt S 1) (da_nil)) (dk_nil))) (dss_one (ds_ret (e_mk C.toCt S 0 T.mk_Ratio F_Ratio___init__ T.gc_Ratio (fun _ h => kb_Ratio___init___2 h) (da_cons rfl (de_bin o_mul (e_fl T.fl_own_top (v C.toCt S 0)) (e_fl T.fl_own_top (v C.toCt S 2))) (da_cons rfl (de_bin o_mul (e_fl T.fl_own_bottom (v C.toCt S 0)) (e_fl T.fl_own_bottom (v C.toCt S 2))) (da_nil))) (dk_nil))))
theorem ok_Move_then (T : Txt K mg base cl) (F_require_move : Df P w K mg base cl 2 "require_move" "require_move" (st_require_move) [] (He.ga K "require_move") ["value"] m_require_move) (F_Move_plus : Df P w K mg base cl 1 "plus" "Move.plus" (st_Move_plus) [] (He5.wf K (cl 2) "property" "plus") ["self"] m_Move_plus) (F_Ratio___mul__ : Df P w K mg base cl 6 "__mul__" "Ratio.__mul__" (st_Ratio___mul__) [] (He.ma K (cl 0) "__mul__") ["self", "other"] m_Ratio___mul__) (F_Ratio___add__ : Df P w K mg base cl 6 "__add__" "Ratio.__add__" (st_Ratio___add__) [] (He.ma K (cl 0) "__add__") ["self", "other"] m_Ratio___add__) (F_Move___init__ : Df P w K mg base cl 6 "__init__" "Move.__init__" (st_Move___init__) [] (He.ma K (cl 2) "__init__") ["self", "divisor", "plus", "low", "high"] m_Move___init__) (F_Move_divisor : Df P w K mg base cl 1 "divisor" "Move.divisor" (st_Move_divisor) [] (He5.wf K (cl 2) "property" "divisor") ["self"] m_Move_divisor) (F_Move_at : Df P w K mg base cl 9 "at" "Move.at" (st_Move_at) [] (He.ma K (cl 2) "at") ["self", "number"] m_Move_at) {fd : FuncData} (F : FunD K "then" "Move.then" (defArgs st_Move_then) (defBody st_Move_then) (defScope st_Move_then) [] [] (He.ma K (cl 2) "then") fd) : Df P w K mg base cl 10 "then" "Move.then" (st_Move_then) [] (He.ma K (cl 2) "then") ["self", "other"] m_Move_then := by
  unfold m_Move_then
  exact
  fn_u (N := ["self", "other", "plus"]) (k := 9) (st := st_Move_then) F ⟨rfl, rfl, rfl, by decide +kernel, rfl, by decide +kernel, by decide +kernel⟩ (fun _ _ _ _ _ _ us h => match us, h with | [_, _], _ => rfl) fun cdv A outer s H E C =>
    have S := C.toCt.seen (U := [1, 0, 2]) (L := [2]) (G := ["require_move", "Move"]) (by decide +kernel)
    dss_cons (ds_drop rfl (e_dp C.toCt S 0 F_require_move T.gd_require_move (da_cons rfl (v C.toCt S 1) (da_nil)))) (dss_cons (s_set C S 2 (de_two (w_addU C.toCt T F_Ratio___add__) (e_fl T.fl_own_plus (v C.toCt S 0)) (de_two (w_mulU C.toCt T F_Ratio___mul__) (e_pr C.toCt (pt_one T.cl_Move T.pr_Move_plus F_Move_plus) (v C.toCt S 1)) (e_fl T.fl_own_divisor (v C.toCt S 0))))) (dss_one (ds_ret (e_mk C.toCt S 1 T.mk_Move F_Move___init__ T.gc_Move (fun _ h => kb_Move___init___4 h) (da_cons rfl (de_two (w_mulU C.toCt T F_Ratio___mul__) (e_fl T.fl_own_divisor (v C.toCt S 0)) (e_pr C.toCt (pt_one T.cl_Move T.pr_Move_divisor F_Move_divisor) (v C.toCt S 1))) (da_cons rfl (v C.toCt S 2) (da_cons rfl (e_me C.toCt 2 T.cl_Move T.me_Move_at F_Move_at (fun _ h => kb_Move_at_1 h) (v C.toCt S 1) (da_cons rfl (e_fl T.fl_own_low (v C.toCt S 0)) (da_nil)) (dk_nil)) (da_cons rfl (e_me C.toCt 2 T.cl_Move T.me_Move_at F_Move_at (fun _ h => kb_Move_at_1 h) (v C.toCt S 1) (da_cons rfl (e_fl T.fl_own_high (v C.toCt S 0)) (da_nil)) (dk_nil)) (da_nil))))) (dk_nil)))))
theorem ok_require_range (T : Txt K mg base cl) {fd : FuncData} (F : FunD K "require_range" "require_range" (defArgs st_require_range) (defBody st_require_range) (defScope st_require_range) [] [] (He.ga K "require_range") fd) : Df P w K mg base cl 2 "require_range" "require_range" (st_require_range) [] (He.ga K "require_range") ["value"] m_require_range := by
  unfold m_require_range
  exact
  fn_u (N := ["value"]) (k := 1) (st := st_require_range) F ⟨rfl, rfl, rfl, by decide +kernel, rfl, by decide +kernel, by decide +kernel⟩ (fun _ _ _ _ _ _ us h => match us, h with | [_], _ => rfl) fun cdv A outer s H E C =>
    have S := C.toCt.seen (U := [0]) (L := []) (G := ["isinstance", "Range"]) (by decide +kernel)
    dss_one (ds_if (dt_not (dt_tru rfl (e_blt C.toCt S 0 (c_isD T.KF T.TK) (T.nb 7 (by decide)) bt_isinstance (da_cons rfl (v C.toCt S 0) (da_cons rfl (e_cls C.toCt S 1 T.gc_Range) (da_nil)))))) (dss_one (ds_bad)) (dss_nil))
theorem ok_Ratio___neg__ (T : Txt K mg base cl) (F_Ratio___init__ : Df P w K mg base cl 3 "__init__" "Ratio.__init__" (st_Ratio___init__) [V.int 1] (He.ma K (cl 0) "__init__") ["self", "top", "bottom"] m_Ratio___init__) {fd : FuncData} (F : FunD K "__neg__" "Ratio.__neg__" (defArgs st_Ratio___neg__) (defBody st_Ratio___neg__) (defScope st_Ratio___neg__) [] [] (He.ma K (cl 0) "__neg__") fd) : Df P w K mg base cl 5 "__neg__" "Ratio.__neg__" (st_Ratio___neg__) [] (He.ma K (cl 0) "__neg__") ["self"] m_Ratio___neg__ := by
  unfold m_Ratio___neg__
  exact
  fn_u (N := ["self"]) (k := 4) (st := st_Ratio___neg__) F ⟨rfl, rfl, rfl, by decide +kernel, rfl, by decide +kernel, by decide +kernel⟩ (fun _ _ _ _ _ _ us h => match us, h with | [_], _ => rfl) fun cdv A outer s H E C =>
    have S := C.toCt.seen (U := [0]) (L := []) (G := ["Ratio"]) (by decide +kernel)
    dss_one (ds_ret (e_mk C.toCt S 0 T.mk_Ratio F_Ratio___init__ T.gc_Ratio (fun _ h => kb_Ratio___init___2 h) (da_cons rfl (de_neg (e_fl T.fl_own_top (v C.toCt S 0))) (da_cons rfl (e_fl T.fl_own_bottom (v C.toCt S 0)) (da_nil))) (dk_nil)))
theorem ok_Ratio___sub__ (T : Txt K mg base cl) (F_Ratio_of : Df P w K mg base cl 5 "of" "Ratio.of" (st_Ratio_of) [] (He5.wf K (cl 0) "classmethod" "of") ["cls", "number"] m_Ratio_of) (F_Ratio___neg__ : Df P w K mg base cl 5 "__neg__" "Ratio.__neg__" (st_Ratio___neg__) [] (He.ma K (cl 0) "__neg__") ["self"] m_Ratio___neg__) (F_Ratio___add__ : Df P w K mg base cl 6 "__add__" "Ratio.__add__" (st_Ratio___add__) [] (He.ma K (cl 0) "__add__") ["self", "other"] m_Ratio___add__) {fd : FuncData} (F : FunD K "__sub__" "Ratio.__sub__" (defArgs st_Ratio___sub__) (defBody st_Ratio___sub__) (defScope st_Ratio___sub__) [] [] (He.ma K (cl 0) "__sub__") fd) : Df P w K mg base cl 7 "__sub__" "Ratio.__sub__" (st_Ratio___sub__) [] (He.ma K (cl 0) "__sub__") ["self", "other"] m_Ratio___sub__ := by
  unfold m_Ratio___sub__
  exact
  fn_u (N := ["self", "other"]) (k := 6) (st := st_Ratio___sub__) F ⟨rfl, rfl, rfl, by decide +kernel, rfl, by decide +kernel, by decide +kernel⟩ (fun _ _ _ _ _ _ us h => match us, h with | [_, _], _ => rfl) fun cdv A outer s H E C =>
    have S := C.toCt.seen (U := [0, 1]) (L := []) (G := ["Ratio"]) (by decide +kernel)
    dss_one (ds_ret (de_two (w_addU C.toCt T F_Ratio___add__) (v C.toCt S 0) (de_unW (w_negU C.toCt T F_Ratio___neg__) (e_cm C.toCt 0 T.cr_Ratio T.cm_Ratio_of F_Ratio_of (fun _ h => kb_Ratio_of_1 h) (e_cls C.toCt S 0 T.gc_Ratio) (da_cons rfl (v C.toCt S 1) (da_nil)) (dk_nil)))))
theorem ok_Move_back (T : Txt K mg base cl) (F_require_cut : Df P w K mg base cl 5 "require_cut" "require_cut" (st_require_cut) [] (He.ga K "require_cut") ["value"] m_require_cut) (F_require_range : Df P w K mg base cl 2 "require_range" "require_range" (st_require_range) [] (He.ga K "require_range") ["value"] m_require_range) (F_Range_outer : Df P w K mg base cl 1 "outer" "Range.outer" (st_Range_outer) [] (He.ma K (cl 1) "outer") ["self"] m_Range_outer) (F_is_beyond : Df P w K mg base cl 7 "is_beyond" "is_beyond" (st_is_beyond) [] (He.ga K "is_beyond") ["number", "cut"] m_is_beyond) (F_Move_at : Df P w K mg base cl 9 "at" "Move.at" (st_Move_at) [] (He.ma K (cl 2) "at") ["self", "number"] m_Move_at) (F_Range_low : Df P w K mg base cl 1 "low" "Range.low" (st_Range_low) [] (He5.wf K (cl 1) "property" "low") ["self"] m_Range_low) (F_Move_low : Df P w K mg base cl 1 "low" "Move.low" (st_Move_low) [] (He5.wf K (cl 2) "property" "low") ["self"] m_Move_low) (F_Range_high : Df P w K mg base cl 1 "high" "Range.high" (st_Range_high) [] (He5.wf K (cl 1) "property" "high") ["self"] m_Range_high) (F_Move_high : Df P w K mg base cl 1 "high" "Move.high" (st_Move_high) [] (He5.wf K (cl 2) "property" "high") ["self"] m_Move_high) (F_Range_fit : Df P w K mg base cl 8 "fit" "Range.fit" (st_Range_fit) [] (He.ma K (cl 1) "fit") ["self", "cut"] m_Range_fit) (F_Ratio_of : Df P w K mg base cl 5 "of" "Ratio.of" (st_Ratio_of) [] (He5.wf K (cl 0) "classmethod" "of") ["cls", "number"] m_Ratio_of) (F_Ratio___mul__ : Df P w K mg base cl 6 "__mul__" "Ratio.__mul__" (st_Ratio___mul__) [] (He.ma K (cl 0) "__mul__") ["self", "other"] m_Ratio___mul__) (F_Ratio___sub__ : Df P w K mg base cl 7 "__sub__" "Ratio.__sub__" (st_Ratio___sub__) [] (He.ma K (cl 0) "__sub__") ["self", "other"] m_Ratio___sub__) {fd : FuncData} (F : FunD K "back" "Move.back" (defArgs st_Move_back) (defBody st_Move_back) (defScope st_Move_back) [] [] (He.ma K (cl 2) "back") fd) : Df P w K mg base cl 10 "back" "Move.back" (st_Move_back) [] (He.ma K (cl 2) "back") ["self", "cut", "within"] m_Move_back := by
  unfold m_Move_back
  exact
  fn_u (N := ["self", "cut", "within", "first", "second"]) (k := 9) (st := st_Move_back) F ⟨rfl, rfl, rfl, by decide +kernel, rfl, by decide +kernel, by decide +kernel⟩ (fun _ _ _ _ _ _ us h => match us, h with | [_, _, _], _ => rfl) fun cdv A outer s H E C =>
    have S := C.toCt.seen (U := [1, 2, 0, 3, 4]) (L := [3, 4]) (G := ["require_cut", "require_range", "is_beyond", "Ratio"]) (by decide +kernel)
    dss_cons (ds_drop rfl (e_dp C.toCt S 0 F_require_cut T.gd_require_cut (da_cons rfl (v C.toCt S 1) (da_nil)))) (dss_cons (ds_drop rfl (e_dp C.toCt S 1 F_require_range T.gd_require_range (da_cons rfl (v C.toCt S 2) (da_nil)))) (dss_cons (ds_asg rfl rfl rfl (e_me C.toCt 1 T.cl_Range T.me_Range_outer F_Range_outer (fun _ h => kb_Range_outer_0 h) (v C.toCt S 2) (da_nil) (dk_nil)) (dg_tup C.toCt.calm rfl (dgs_cons rfl (g_set C S 3) (dgs_cons rfl (g_set C S 4) (dgs_nil))))) (dss_cons (ds_if (dt_tru rfl (e_dp C.toCt S 2 F_is_beyond T.gd_is_beyond (da_cons rfl (e_me C.toCt 2 T.cl_Move T.me_Move_at F_Move_at (fun _ h => kb_Move_at_1 h) (v C.toCt S 0) (da_cons rfl (e_pr C.toCt (pt_two (k' := 1) (pt_one T.cl_Range T.pr_Range_low F_Range_low) (pt_one T.cl_Move T.pr_Move_low F_Move_low) (by decide) (by decide)) (v C.toCt S 2)) (da_nil)) (dk_nil)) (da_cons rfl (v C.toCt S 1) (da_nil))))) (dss_one (ds_ret (v C.toCt S 3))) (dss_nil)) (dss_cons (ds_if (dt_not (dt_tru rfl (e_dp C.toCt S 2 F_is_beyond T.gd_is_beyond (da_cons rfl (e_me C.toCt 2 T.cl_Move T.me_Move_at F_Move_at (fun _ h => kb_Move_at_1 h) (v C.toCt S 0) (da_cons rfl (e_pr C.toCt (pt_two (k' := 1) (pt_one T.cl_Range T.pr_Range_high F_Range_high) (pt_one T.cl_Move T.pr_Move_high F_Move_high) (by decide) (by decide)) (v C.toCt S 2)) (da_nil)) (dk_nil)) (da_cons rfl (v C.toCt S 1) (da_nil)))))) (dss_one (ds_ret (v C.toCt S 4))) (dss_nil)) (dss_one (ds_ret (e_me C.toCt 1 T.cl_Range T.me_Range_fit F_Range_fit (fun _ h => kb_Range_fit_1 h) (v C.toCt S 2) (da_cons rfl (de_tup (da_cons rfl (de_two (w_subU C.toCt T F_Ratio___sub__) (de_two (w_mulU C.toCt T F_Ratio___mul__) (e_cm C.toCt 0 T.cr_Ratio T.cm_Ratio_of F_Ratio_of (fun _ h => kb_Ratio_of_1 h) (e_cls C.toCt S 3 T.gc_Ratio) (da_cons rfl (de_ix (v C.toCt S 1) (de_int) rfl) (da_nil)) (dk_nil)) (e_fl T.fl_own_divisor (v C.toCt S 0))) (e_fl T.fl_own_plus (v C.toCt S 0))) (da_cons rfl (de_ix (v C.toCt S 1) (de_int) rfl) (da_nil)))) (da_nil)) (dk_nil))))))))
theorem ok_Move_form (T : Txt K mg base cl) (F_require_range : Df P w K mg base cl 2 "require_range" "require_range" (st_require_range) [] (He.ga K "require_range") ["value"] m_require_range) (F_Move_at : Df P w K mg base cl 9 "at" "Move.at" (st_Move_at) [] (He.ma K (cl 2) "at") ["self", "number"] m_Move_at) (F_Range_low : Df P w K mg base cl 1 "low" "Range.low" (st_Range_low) [] (He5.wf K (cl 1) "property" "low") ["self"] m_Range_low) (F_Move_low : Df P w K mg base cl 1 "low" "Move.low" (st_Move_low) [] (He5.wf K (cl 2) "property" "low") ["self"] m_Move_low) (F_Range_high : Df P w K mg base cl 1 "high" "Range.high" (st_Range_high) [] (He5.wf K (cl 1) "property" "high") ["self"] m_Range_high) (F_Move_high : Df P w K mg base cl 1 "high" "Move.high" (st_Move_high) [] (He5.wf K (cl 2) "property" "high") ["self"] m_Move_high) (F_Ratio___eq__ : Df P w K mg base cl 2 "__eq__" "Ratio.__eq__" (st_Ratio___eq__) [] (He.ma K (cl 0) "__eq__") ["self", "other"] m_Ratio___eq__) {fd : FuncData} (F : FunD K "form" "Move.form" (defArgs st_Move_form) (defBody st_Move_form) (defScope st_Move_form) [] [] (He.ma K (cl 2) "form") fd) : Df P w K mg base cl 10 "form" "Move.form" (st_Move_form) [] (He.ma K (cl 2) "form") ["self", "within"] m_Move_form := by
  unfold m_Move_form
  exact
  fn_u (N := ["self", "within", "least", "greatest", "divisor", "plus"]) (k := 9) (st := st_Move_form) F ⟨rfl, rfl, rfl, by decide +kernel, rfl, by decide +kernel, by decide +kernel⟩ (fun _ _ _ _ _ _ us h => match us, h with | [_, _], _ => rfl) fun cdv A outer s H E C =>
    have S := C.toCt.seen (U := [1, 0, 2, 3, 4, 5]) (L := [4, 5]) (G := ["require_range"]) (by decide +kernel)
    dss_cons (ds_drop rfl (e_dp C.toCt S 0 F_require_range T.gd_require_range (da_cons rfl (v C.toCt S 1) (da_nil)))) (dss_cons (s_par2 C 2 3 (da_cons rfl (e_me C.toCt 2 T.cl_Move T.me_Move_at F_Move_at (fun _ h => kb_Move_at_1 h) (v C.toCt S 0) (da_cons rfl (e_pr C.toCt (pt_two (k' := 1) (pt_one T.cl_Range T.pr_Range_low F_Range_low) (pt_one T.cl_Move T.pr_Move_low F_Move_low) (by decide) (by decide)) (v C.toCt S 1)) (da_nil)) (dk_nil)) (da_cons rfl (e_me C.toCt 2 T.cl_Move T.me_Move_at F_Move_at (fun _ h => kb_Move_at_1 h) (v C.toCt S 0) (da_cons rfl (e_pr C.toCt (pt_two (k' := 1) (pt_one T.cl_Range T.pr_Range_high F_Range_high) (pt_one T.cl_Move T.pr_Move_high F_Move_high) (by decide) (by decide)) (v C.toCt S 1)) (da_nil)) (dk_nil)) (da_nil))) (by decide +kernel) (by decide +kernel) rfl) (dss_cons (ds_asg rfl rfl rfl (de_if (dt_cmpW (w_eqR C.toCt T F_Ratio___eq__) (v C.toCt S 2) (v C.toCt S 3) rfl) (de_tup (da_cons rfl (de_non) (da_cons rfl (de_non) (da_nil)))) (de_tup (da_cons rfl (e_fl T.fl_own_divisor (v C.toCt S 0)) (da_cons rfl (e_fl T.fl_own_plus (v C.toCt S 0)) (da_nil))))) (dg_tup C.toCt.calm rfl (dgs_cons rfl (g_set C S 4) (dgs_cons rfl (g_set C S 5) (dgs_nil))))) (dss_one (ds_ret (de_tup (da_cons rfl (v C.toCt S 4) (da_cons rfl (v C.toCt S 5) (da_cons rfl (v C.toCt S 2) (da_cons rfl (v C.toCt S 3) (da_nil))))))))))
theorem ok_Move_upper_image (T : Txt K mg base cl) (F_require_cut : Df P w K mg base cl 5 "require_cut" "require_cut" (st_require_cut) [] (He.ga K "require_cut") ["value"] m_require_cut) (F_Move_free : Df P w K mg base cl 7 "free" "Move.free" (st_Move_free) [] (He.ma K (cl 2) "free") ["self", "number"] m_Move_free) (F_is_less : Df P w K mg base cl 3 "is_less" "is_less" (st_is_less) [] (He.ga K "is_less") ["one", "other"] m_is_less) (F_Ratio___eq__ : Df P w K mg base cl 2 "__eq__" "Ratio.__eq__" (st_Ratio___eq__) [] (He.ma K (cl 0) "__eq__") ["self", "other"] m_Ratio___eq__) (F_Move_at : Df P w K mg base cl 9 "at" "Move.at" (st_Move_at) [] (He.ma K (cl 2) "at") ["self", "number"] m_Move_at) {fd : FuncData} (F : FunD K "upper_image" "Move.upper_image" (defArgs st_Move_upper_image) (defBody st_Move_upper_image) (defScope st_Move_upper_image) [] [] (He.ma K (cl 2) "upper_image") fd) : Df P w K mg base cl 10 "upper_image" "Move.upper_image" (st_Move_upper_image) [] (He.ma K (cl 2) "upper_image") ["self", "cut"] m_Move_upper_image := by
  unfold m_Move_upper_image
  exact
  fn_u (N := ["self", "cut", "free", "is_level"]) (k := 9) (st := st_Move_upper_image) F ⟨rfl, rfl, rfl, by decide +kernel, rfl, by decide +kernel, by decide +kernel⟩ (fun _ _ _ _ _ _ us h => match us, h with | [_, _], _ => rfl) fun cdv A outer s H E C =>
    have S := C.toCt.seen (U := [1, 0, 2, 3]) (L := [2, 3]) (G := ["require_cut", "is_less"]) (by decide +kernel)
    dss_cons (ds_drop rfl (e_dp C.toCt S 0 F_require_cut T.gd_require_cut (da_cons rfl (v C.toCt S 1) (da_nil)))) (dss_cons (s_set C S 2 (e_me C.toCt 2 T.cl_Move T.me_Move_free F_Move_free (fun _ h => kb_Move_free_1 h) (v C.toCt S 0) (da_cons rfl (de_ix (v C.toCt S 1) (de_int) rfl) (da_nil)) (dk_nil))) (dss_cons (s_set C S 3 (de_or (e_dp C.toCt S 1 F_is_less T.gd_is_less (da_cons rfl (e_fl T.fl_own_high (v C.toCt S 0)) (da_cons rfl (v C.toCt S 2) (da_nil)))) (de_or (de_not (e_dp C.toCt S 1 F_is_less T.gd_is_less (da_cons rfl (e_fl T.fl_own_low (v C.toCt S 0)) (da_cons rfl (v C.toCt S 2) (da_nil))))) (de_one (de_cmpW (w_eqR C.toCt T F_Ratio___eq__) (e_fl T.fl_own_low (v C.toCt S 0)) (e_fl T.fl_own_high (v C.toCt S 0)) rfl))))) (dss_one (ds_ret (de_tup (da_cons rfl (e_me C.toCt 2 T.cl_Move T.me_Move_at F_Move_at (fun _ h => kb_Move_at_1 h) (v C.toCt S 0) (da_cons rfl (de_ix (v C.toCt S 1) (de_int) rfl) (da_nil)) (dk_nil)) (da_cons rfl (de_or (de_ix (v C.toCt S 1) (de_int) rfl) (de_one (v C.toCt S 3))) (da_nil))))))))
theorem ok_Move_lower_image (T : Txt K mg base cl) (F_require_cut : Df P w K mg base cl 5 "require_cut" "require_cut" (st_require_cut) [] (He.ga K "require_cut") ["value"] m_require_cut) (F_Move_free : Df P w K mg base cl 7 "free" "Move.free" (st_Move_free) [] (He.ma K (cl 2) "free") ["self", "number"] m_Move_free) (F_is_less : Df P w K mg base cl 3 "is_less" "is_less" (st_is_less) [] (He.ga K "is_less") ["one", "other"] m_is_less) (F_Ratio___eq__ : Df P w K mg base cl 2 "__eq__" "Ratio.__eq__" (st_Ratio___eq__) [] (He.ma K (cl 0) "__eq__") ["self", "other"] m_Ratio___eq__) (F_Move_at : Df P w K mg base cl 9 "at" "Move.at" (st_Move_at) [] (He.ma K (cl 2) "at") ["self", "number"] m_Move_at) {fd : FuncData} (F : FunD K "lower_image" "Move.lower_image" (defArgs st_Move_lower_image) (defBody st_Move_lower_image) (defScope st_Move_lower_image) [] [] (He.ma K (cl 2) "lower_image") fd) : Df P w K mg base cl 10 "lower_image" "Move.lower_image" (st_Move_lower_image) [] (He.ma K (cl 2) "lower_image") ["self", "cut"] m_Move_lower_image := by
  unfold m_Move_lower_image
  exact
  fn_u (N := ["self", "cut", "free", "is_level"]) (k := 9) (st := st_Move_lower_image) F ⟨rfl, rfl, rfl, by decide +kernel, rfl, by decide +kernel, by decide +kernel⟩ (fun _ _ _ _ _ _ us h => match us, h with | [_, _], _ => rfl) fun cdv A outer s H E C =>
    have S := C.toCt.seen (U := [1, 0, 2, 3]) (L := [2, 3]) (G := ["require_cut", "is_less"]) (by decide +kernel)
    dss_cons (ds_drop rfl (e_dp C.toCt S 0 F_require_cut T.gd_require_cut (da_cons rfl (v C.toCt S 1) (da_nil)))) (dss_cons (s_set C S 2 (e_me C.toCt 2 T.cl_Move T.me_Move_free F_Move_free (fun _ h => kb_Move_free_1 h) (v C.toCt S 0) (da_cons rfl (de_ix (v C.toCt S 1) (de_int) rfl) (da_nil)) (dk_nil))) (dss_cons (s_set C S 3 (de_or (e_dp C.toCt S 1 F_is_less T.gd_is_less (da_cons rfl (v C.toCt S 2) (da_cons rfl (e_fl T.fl_own_low (v C.toCt S 0)) (da_nil)))) (de_or (de_not (e_dp C.toCt S 1 F_is_less T.gd_is_less (da_cons rfl (v C.toCt S 2) (da_cons rfl (e_fl T.fl_own_high (v C.toCt S 0)) (da_nil))))) (de_one (de_cmpW (w_eqR C.toCt T F_Ratio___eq__) (e_fl T.fl_own_low (v C.toCt S 0)) (e_fl T.fl_own_high (v C.toCt S 0)) rfl))))) (dss_one (ds_ret (de_tup (da_cons rfl (e_me C.toCt 2 T.cl_Move T.me_Move_at F_Move_at (fun _ h => kb_Move_at_1 h) (v C.toCt S 0) (da_cons rfl (de_ix (v C.toCt S 1) (de_int) rfl) (da_nil)) (dk_nil)) (da_cons rfl (de_and (de_ix (v C.toCt S 1) (de_int) rfl) (de_one (de_not (v C.toCt S 3)))) (da_nil))))))))
theorem ok_Move_upper_limit (T : Txt K mg base cl) (F_is_first : Df P w K mg base cl 7 "is_first" "is_first" (st_is_first) [] (He.ga K "is_first") ["one", "other"] m_is_first) (F_Move_upper_image : Df P w K mg base cl 10 "upper_image" "Move.upper_image" (st_Move_upper_image) [] (He.ma K (cl 2) "upper_image") ["self", "cut"] m_Move_upper_image) (F_Ratio_of : Df P w K mg base cl 5 "of" "Ratio.of" (st_Ratio_of) [] (He5.wf K (cl 0) "classmethod" "of") ["cls", "number"] m_Ratio_of) (F_Ratio_sign : Df P w K mg base cl 1 "sign" "Ratio.sign" (st_Ratio_sign) [] (He5.wf K (cl 0) "property" "sign") ["self"] m_Ratio_sign) (F_Ratio_over : Df P w K mg base cl 6 "over" "Ratio.over" (st_Ratio_over) [] (He.ma K (cl 0) "over") ["self", "other"] m_Ratio_over) (F_is_less : Df P w K mg base cl 3 "is_less" "is_less" (st_is_less) [] (He.ga K "is_less") ["one", "other"] m_is_less) {fd : FuncData} (F : FunD K "upper_limit" "Move.upper_limit" (defArgs st_Move_upper_limit) (defBody st_Move_upper_limit) (defScope st_Move_upper_limit) [] [] (He.ma K (cl 2) "upper_limit") fd) : Df P w K mg base cl 11 "upper_limit" "Move.upper_limit" (st_Move_upper_limit) [] (He.ma K (cl 2) "upper_limit") ["self", "cut"] m_Move_upper_limit := by
  unfold m_Move_upper_limit
  exact
  fn_u (N := ["self", "cut", "rest"]) (k := 10) (st := st_Move_upper_limit) F ⟨rfl, rfl, rfl, by decide +kernel, rfl, by decide +kernel, by decide +kernel⟩ (fun _ _ _ _ _ _ us h => match us, h with | [_, _], _ => rfl) fun cdv A outer s H E C =>
    have S := C.toCt.seen (U := [1, 0, 2]) (L := [2]) (G := ["is_first", "Ratio", "is_less"]) (by decide +kernel)
    dss_cons (ds_if (dt_not (dt_tru rfl (e_dp C.toCt S 0 F_is_first T.gd_is_first (da_cons rfl (v C.toCt S 1) (da_cons rfl (e_me C.toCt 2 T.cl_Move T.me_Move_upper_image F_Move_upper_image (fun _ h => kb_Move_upper_image_1 h) (v C.toCt S 0) (da_cons rfl (v C.toCt S 1) (da_nil)) (dk_nil)) (da_nil)))))) (dss_one (ds_ret (de_tup (da_cons rfl (e_cm C.toCt 0 T.cr_Ratio T.cm_Ratio_of F_Ratio_of (fun _ h => kb_Ratio_of_1 h) (e_cls C.toCt S 1 T.gc_Ratio) (da_cons rfl (de_ix (v C.toCt S 1) (de_int) rfl) (da_nil)) (dk_nil)) (da_cons rfl (de_ix (v C.toCt S 1) (de_int) rfl) (da_nil)))))) (dss_nil)) (dss_cons (ds_if (dt_cmp (o_eqP C.toCt.room.units) (e_fl T.fl_own_divisor (v C.toCt S 0)) (de_int) rfl) (dss_one (ds_ret (de_tup (da_cons rfl (de_if (dt_cmp o_gtI (e_pr C.toCt (pt_one T.cl_Ratio T.pr_Ratio_sign F_Ratio_sign) (e_fl T.fl_own_plus (v C.toCt S 0))) (de_int) rfl) (e_fl T.fl_own_high (v C.toCt S 0)) (e_fl T.fl_own_low (v C.toCt S 0))) (da_cons rfl (de_bl) (da_nil)))))) (dss_nil)) (dss_cons (s_set C S 2 (e_me C.toCt 0 T.cl_Ratio T.me_Ratio_over F_Ratio_over (fun _ h => kb_Ratio_over_1 h) (e_fl T.fl_own_plus (v C.toCt S 0)) (da_cons rfl (de_bin o_subI (e_fl T.fl_own_divisor (v C.toCt S 0)) (de_int)) (da_nil)) (dk_nil))) (dss_cons (ds_if (dt_not (dt_tru rfl (e_dp C.toCt S 2 F_is_less T.gd_is_less (da_cons rfl (e_fl T.fl_own_low (v C.toCt S 0)) (da_cons rfl (v C.toCt S 2) (da_nil)))))) (dss_one (ds_ret (de_tup (da_cons rfl (e_fl T.fl_own_low (v C.toCt S 0)) (da_cons rfl (de_bl) (da_nil)))))) (dss_nil)) (dss_one (ds_ret (de_if (dt_tru rfl (e_dp C.toCt S 2 F_is_less T.gd_is_less (da_cons rfl (e_fl T.fl_own_high (v C.toCt S 0)) (da_cons rfl (v C.toCt S 2) (da_nil))))) (de_tup (da_cons rfl (e_fl T.fl_own_high (v C.toCt S 0)) (da_cons rfl (de_bl) (da_nil)))) (de_tup (da_cons rfl (v C.toCt S 2) (da_cons rfl (de_bl) (da_nil))))))))))
theorem ok_Move_lower_limit (T : Txt K mg base cl) (F_is_first : Df P w K mg base cl 7 "is_first" "is_first" (st_is_first) [] (He.ga K "is_first") ["one", "other"] m_is_first) (F_Move_lower_image : Df P w K mg base cl 10 "lower_image" "Move.lower_image" (st_Move_lower_image) [] (He.ma K (cl 2) "lower_image") ["self", "cut"] m_Move_lower_image) (F_Ratio_of : Df P w K mg base cl 5 "of" "Ratio.of" (st_Ratio_of) [] (He5.wf K (cl 0) "classmethod" "of") ["cls", "number"] m_Ratio_of) (F_Ratio_sign : Df P w K mg base cl 1 "sign" "Ratio.sign" (st_Ratio_sign) [] (He5.wf K (cl 0) "property" "sign") ["self"] m_Ratio_sign) (F_Ratio_over : Df P w K mg base cl 6 "over" "Ratio.over" (st_Ratio_over) [] (He.ma K (cl 0) "over") ["self", "other"] m_Ratio_over) (F_is_less : Df P w K mg base cl 3 "is_less" "is_less" (st_is_less) [] (He.ga K "is_less") ["one", "other"] m_is_less) {fd : FuncData} (F : FunD K "lower_limit" "Move.lower_limit" (defArgs st_Move_lower_limit) (defBody st_Move_lower_limit) (defScope st_Move_lower_limit) [] [] (He.ma K (cl 2) "lower_limit") fd) : Df P w K mg base cl 11 "lower_limit" "Move.lower_limit" (st_Move_lower_limit) [] (He.ma K (cl 2) "lower_limit") ["self", "cut"] m_Move_lower_limit := by
  unfold m_Move_lower_limit
  exact
  fn_u (N := ["self", "cut", "rest"]) (k := 10) (st := st_Move_lower_limit) F ⟨rfl, rfl, rfl, by decide +kernel, rfl, by decide +kernel, by decide +kernel⟩ (fun _ _ _ _ _ _ us h => match us, h with | [_, _], _ => rfl) fun cdv A outer s H E C =>
    have S := C.toCt.seen (U := [0, 1, 2]) (L := [2]) (G := ["is_first", "Ratio", "is_less"]) (by decide +kernel)
    dss_cons (ds_if (dt_not (dt_tru rfl (e_dp C.toCt S 0 F_is_first T.gd_is_first (da_cons rfl (e_me C.toCt 2 T.cl_Move T.me_Move_lower_image F_Move_lower_image (fun _ h => kb_Move_lower_image_1 h) (v C.toCt S 0) (da_cons rfl (v C.toCt S 1) (da_nil)) (dk_nil)) (da_cons rfl (v C.toCt S 1) (da_nil)))))) (dss_one (ds_ret (de_tup (da_cons rfl (e_cm C.toCt 0 T.cr_Ratio T.cm_Ratio_of F_Ratio_of (fun _ h => kb_Ratio_of_1 h) (e_cls C.toCt S 1 T.gc_Ratio) (da_cons rfl (de_ix (v C.toCt S 1) (de_int) rfl) (da_nil)) (dk_nil)) (da_cons rfl (de_ix (v C.toCt S 1) (de_int) rfl) (da_nil)))))) (dss_nil)) (dss_cons (ds_if (dt_cmp (o_eqP C.toCt.room.units) (e_fl T.fl_own_divisor (v C.toCt S 0)) (de_int) rfl) (dss_one (ds_ret (de_tup (da_cons rfl (de_if (dt_cmp o_ltI (e_pr C.toCt (pt_one T.cl_Ratio T.pr_Ratio_sign F_Ratio_sign) (e_fl T.fl_own_plus (v C.toCt S 0))) (de_int) rfl) (e_fl T.fl_own_low (v C.toCt S 0)) (e_fl T.fl_own_high (v C.toCt S 0))) (da_cons rfl (de_bl) (da_nil)))))) (dss_nil)) (dss_cons (s_set C S 2 (e_me C.toCt 0 T.cl_Ratio T.me_Ratio_over F_Ratio_over (fun _ h => kb_Ratio_over_1 h) (e_fl T.fl_own_plus (v C.toCt S 0)) (da_cons rfl (de_bin o_subI (e_fl T.fl_own_divisor (v C.toCt S 0)) (de_int)) (da_nil)) (dk_nil))) (dss_cons (ds_if (dt_not (dt_tru rfl (e_dp C.toCt S 2 F_is_less T.gd_is_less (da_cons rfl (v C.toCt S 2) (da_cons rfl (e_fl T.fl_own_high (v C.toCt S 0)) (da_nil)))))) (dss_one (ds_ret (de_tup (da_cons rfl (e_fl T.fl_own_high (v C.toCt S 0)) (da_cons rfl (de_bl) (da_nil)))))) (dss_nil)) (dss_one (ds_ret (de_if (dt_tru rfl (e_dp C.toCt S 2 F_is_less T.gd_is_less (da_cons rfl (v C.toCt S 2) (da_cons rfl (e_fl T.fl_own_low (v C.toCt S 0)) (da_nil))))) (de_tup (da_cons rfl (e_fl T.fl_own_low (v C.toCt S 0)) (da_cons rfl (de_bl) (da_nil)))) (de_tup (da_cons rfl (v C.toCt S 2) (da_cons rfl (de_bl) (da_nil))))))))))
theorem ok_Move_is_alike (T : Txt K mg base cl) (F_require_move : Df P w K mg base cl 2 "require_move" "require_move" (st_require_move) [] (He.ga K "require_move") ["value"] m_require_move) (F_require_range : Df P w K mg base cl 2 "require_range" "require_range" (st_require_range) [] (He.ga K "require_range") ["value"] m_require_range) (F_Ratio___eq__ : Df P w K mg base cl 2 "__eq__" "Ratio.__eq__" (st_Ratio___eq__) [] (He.ma K (cl 0) "__eq__") ["self", "other"] m_Ratio___eq__) (F_Move_form : Df P w K mg base cl 10 "form" "Move.form" (st_Move_form) [] (He.ma K (cl 2) "form") ["self", "within"] m_Move_form) {fd : FuncData} (F : FunD K "is_alike" "Move.is_alike" (defArgs st_Move_is_alike) (defBody st_Move_is_alike) (defScope st_Move_is_alike) [] [] (He.ma K (cl 2) "is_alike") fd) : Df P w K mg base cl 11 "is_alike" "Move.is_alike" (st_Move_is_alike) [] (He.ma K (cl 2) "is_alike") ["self", "other", "within"] m_Move_is_alike := by
  unfold m_Move_is_alike
  exact
  fn_u (N := ["self", "other", "within"]) (k := 10) (st := st_Move_is_alike) F ⟨rfl, rfl, rfl, by decide +kernel, rfl, by decide +kernel, by decide +kernel⟩ (fun _ _ _ _ _ _ us h => match us, h with | [_, _, _], _ => rfl) fun cdv A outer s H E C =>
    have S := C.toCt.seen (U := [1, 2, 0]) (L := []) (G := ["require_move", "require_range"]) (by decide +kernel)
    dss_cons (ds_drop rfl (e_dp C.toCt S 0 F_require_move T.gd_require_move (da_cons rfl (v C.toCt S 1) (da_nil)))) (dss_cons (ds_drop rfl (e_dp C.toCt S 1 F_require_range T.gd_require_range (da_cons rfl (v C.toCt S 2) (da_nil)))) (dss_one (ds_ret (de_cmpW (w_eqT C.toCt T F_Ratio___eq__) (e_me C.toCt 2 T.cl_Move T.me_Move_form F_Move_form (fun _ h => kb_Move_form_1 h) (v C.toCt S 0) (da_cons rfl (v C.toCt S 2) (da_nil)) (dk_nil)) (e_me C.toCt 2 T.cl_Move T.me_Move_form F_Move_form (fun _ h => kb_Move_form_1 h) (v C.toCt S 1) (da_cons rfl (v C.toCt S 2) (da_nil)) (dk_nil)) rfl))))
theorem ok_Move_added (T : Txt K mg base cl) (F_Ratio___mul__ : Df P w K mg base cl 6 "__mul__" "Ratio.__mul__" (st_Ratio___mul__) [] (He.ma K (cl 0) "__mul__") ["self", "other"] m_Ratio___mul__) (F_Move_held : Df P w K mg base cl 8 "held" "Move.held" (st_Move_held) [] (He.ma K (cl 2) "held") ["self", "number"] m_Move_held) (F_Ratio___add__ : Df P w K mg base cl 6 "__add__" "Ratio.__add__" (st_Ratio___add__) [] (He.ma K (cl 0) "__add__") ["self", "other"] m_Ratio___add__) (F_Move___init__ : Df P w K mg base cl 6 "__init__" "Move.__init__" (st_Move___init__) [] (He.ma K (cl 2) "__init__") ["self", "divisor", "plus", "low", "high"] m_Move___init__) {fd : FuncData} (F : FunD K "added" "Move.added" (defArgs st_Move_added) (defBody st_Move_added) (defScope st_Move_added) [] [] (He.ma K (cl 2) "added") fd) : Df P w K mg base cl 9 "added" "Move.added" (st_Move_added) [] (He.ma K (cl 2) "added") ["self", "times"] m_Move_added := by
  unfold m_Move_added
  exact
  fn_u (N := ["self", "times", "more", "low", "high", "end"]) (k := 8) (st := st_Move_added) F ⟨rfl, rfl, rfl, by decide +kernel, rfl, by decide +kernel, by decide +kernel⟩ (fun _ _ _ _ _ _ us h => match us, h with | [_, _], _ => rfl) fun cdv A outer s H E C =>
    have S := C.toCt.seen (U := [0, 1, 3, 4]) (L := [2, 3, 4]) (G := ["Move"]) (by decide +kernel)
    dss_cons (s_set C S 2 (de_two (w_mulU C.toCt T F_Ratio___mul__) (e_fl T.fl_own_plus (v C.toCt S 0)) (de_bin o_subI (v C.toCt S 1) (de_int)))) (dss_cons (ds_asgT rfl rfl rfl (e_lc1 C.toCt 5 (blkOk_by (by decide +kernel)) (di_seq (de_tup (da_cons rfl (e_fl T.fl_own_low (v C.toCt S 0)) (da_cons rfl (e_fl T.fl_own_high (v C.toCt S 0)) (da_nil))))) (fun _ _ _ _ _ _ => dts_nil) (fun _ _ _ _ _ B1 => have T1 := B1.seen (U := [0, 5, 2]) (L := []) (G := []) (by decide +kernel); e_me B1 2 T.cl_Move T.me_Move_held F_Move_held (fun _ h => kb_Move_held_1 h) (v B1 T1 0) (da_cons rfl (de_two (w_addU B1 T F_Ratio___add__) (v B1 T1 5) (v B1 T1 2)) (da_nil)) (dk_nil))) (dg_lst C.toCt.calm rfl (dgs_cons rfl (g_set C S 3) (dgs_cons rfl (g_set C S 4) (dgs_nil))))) (dss_one (ds_ret (e_mk C.toCt S 0 T.mk_Move F_Move___init__ T.gc_Move (fun _ h => kb_Move___init___4 h) (da_cons rfl (de_int) (da_cons rfl (de_two (w_mulU C.toCt T F_Ratio___mul__) (e_fl T.fl_own_plus (v C.toCt S 0)) (v C.toCt S 1)) (da_cons rfl (v C.toCt S 3) (da_cons rfl (v C.toCt S 4) (da_nil))))) (dk_nil)))))
theorem ok_Move_done (T : Txt K mg base cl) (F_is_integer : Df P w K mg base cl 2 "is_integer" "is_integer" (st_is_integer) [] (He.ga K "is_integer") ["value"] m_is_integer) (F_Move_added : Df P w K mg base cl 9 "added" "Move.added" (st_Move_added) [] (He.ma K (cl 2) "added") ["self", "times"] m_Move_added) (F_Move_then : Df P w K mg base cl 10 "then" "Move.then" (st_Move_then) [] (He.ma K (cl 2) "then") ["self", "other"] m_Move_then) {fd : FuncData} (F : FunD K "done" "Move.done" (defArgs st_Move_done) (defBody st_Move_done) (defScope st_Move_done) [] [] (He.ma K (cl 2) "done") fd) : Df P w K mg base cl 11 "done" "Move.done" (st_Move_done) [] (He.ma K (cl 2) "done") ["self", "times"] m_Move_done := by
  unfold m_Move_done
  exact
  fn_u (N := ["self", "times", "found", "turn"]) (k := 10) (st := st_Move_done) F ⟨rfl, rfl, rfl, by decide +kernel, rfl, by decide +kernel, by decide +kernel⟩ (fun _ _ _ _ _ _ us h => match us, h with | [_, _], _ => rfl) fun cdv A outer s H E C =>
    have S := C.toCt.seen (U := [1, 0, 2]) (L := [2, 3]) (G := ["is_integer", "MOST_TIMES", "range"]) (by decide +kernel)
    dss_cons (ds_if (PW.pt (dw_or (dt_not (dt_tru rfl (e_dp C.toCt S 0 F_is_integer T.gd_is_integer (da_cons rfl (v C.toCt S 1) (da_nil))))) (dw_or1 (dt_cmp o_ltI (v C.toCt S 1) (de_int) rfl)))) (dss_one (ds_bad)) (dss_nil)) (dss_cons (ds_if (dt_cmp (o_eqP C.toCt.room.units) (e_fl T.fl_own_divisor (v C.toCt S 0)) (de_int) rfl) (dss_one (ds_ret (e_me C.toCt 2 T.cl_Move T.me_Move_added F_Move_added (fun _ h => kb_Move_added_1 h) (v C.toCt S 0) (da_cons rfl (v C.toCt S 1) (da_nil)) (dk_nil)))) (dss_nil)) (dss_cons (ds_if (dt_cmp o_gtI (v C.toCt S 1) (e_gi C.toCt S 1 T.k_MOST_TIMES.choose_spec) rfl) (dss_one (ds_bad)) (dss_nil)) (dss_cons (s_set C S 2 (v C.toCt S 0)) (dss_cons (s_for C (i_rng1 C.toCt S 2 (T.nb 3 (by decide)) (da_cons rfl (de_bin o_subI (v C.toCt S 1) (de_int)) (da_nil))) (g_set C S 3) (dss_one (s_set C S 2 (e_me C.toCt 2 T.cl_Move T.me_Move_then F_Move_then (fun _ h => kb_Move_then_1 h) (v C.toCt S 2) (da_cons rfl (v C.toCt S 0) (da_nil)) (dk_nil))))) (dss_one (ds_ret (v C.toCt S 2)))))))
theorem ok_whole_above (T : Txt K mg base cl) (F_Ratio_top : Df P w K mg base cl 1 "top" "Ratio.top" (st_Ratio_top) [] (He5.wf K (cl 0) "property" "top") ["self"] m_Ratio_top) (F_Ratio_bottom : Df P w K mg base cl 1 "bottom" "Ratio.bottom" (st_Ratio_bottom) [] (He5.wf K (cl 0) "property" "bottom") ["self"] m_Ratio_bottom) {fd : FuncData} (F : FunD K "whole_above" "whole_above" (defArgs st_whole_above) (defBody st_whole_above) (defScope st_whole_above) [] [] (He.ga K "whole_above") fd) : Df P w K mg base cl 3 "whole_above" "whole_above" (st_whole_above) [] (He.ga K "whole_above") ["ratio"] m_whole_above := by
  unfold m_whole_above
  exact
  fn_u (N := ["ratio"]) (k := 2) (st := st_whole_above) F ⟨rfl, rfl, rfl, by decide +kernel, rfl, by decide +kernel, by decide +kernel⟩ (fun _ _ _ _ _ _ us h => match us, h with | [_], _ => rfl) fun cdv A outer s H E C =>
    have S := C.toCt.seen (U := [0]) (L := []) (G := []) (by decide +kernel)
    dss_one (ds_ret (de_neg (de_bin o_divZ (de_neg (e_pr C.toCt (pt_one T.cl_Ratio T.pr_Ratio_top F_Ratio_top) (v C.toCt S 0))) (e_pr C.toCt (pt_one T.cl_Ratio T.pr_Ratio_bottom F_Ratio_bottom) (v C.toCt S 0)))))
theorem ok_Move_counted (T : Txt K mg base cl) (F_Ratio_sign : Df P w K mg base cl 1 "sign" "Ratio.sign" (st_Ratio_sign) [] (He5.wf K (cl 0) "property" "sign") ["self"] m_Ratio_sign) (F_whole_above : Df P w K mg base cl 3 "whole_above" "whole_above" (st_whole_above) [] (He.ga K "whole_above") ["ratio"] m_whole_above) (F_Ratio_over : Df P w K mg base cl 6 "over" "Ratio.over" (st_Ratio_over) [] (He.ma K (cl 0) "over") ["self", "other"] m_Ratio_over) (F_Ratio___sub__ : Df P w K mg base cl 7 "__sub__" "Ratio.__sub__" (st_Ratio___sub__) [] (He.ma K (cl 0) "__sub__") ["self", "other"] m_Ratio___sub__) {fd : FuncData} (F : FunD K "counted" "Move.counted" (defArgs st_Move_counted) (defBody st_Move_counted) (defScope st_Move_counted) [] [] (He.ma K (cl 2) "counted") fd) : Df P w K mg base cl 8 "counted" "Move.counted" (st_Move_counted) [] (He.ma K (cl 2) "counted") ["self", "now"] m_Move_counted := by
  unfold m_Move_counted
  exact
  fn_u (N := ["self", "now", "limit"]) (k := 7) (st := st_Move_counted) F ⟨rfl, rfl, rfl, by decide +kernel, rfl, by decide +kernel, by decide +kernel⟩ (fun _ _ _ _ _ _ us h => match us, h with | [_, _], _ => rfl) fun cdv A outer s H E C =>
    have S := C.toCt.seen (U := [0, 2, 1]) (L := [2]) (G := ["whole_above"]) (by decide +kernel)
    dss_cons (s_set C S 2 (de_if (dt_cmp o_gtI (e_pr C.toCt (pt_one T.cl_Ratio T.pr_Ratio_sign F_Ratio_sign) (e_fl T.fl_own_plus (v C.toCt S 0))) (de_int) rfl) (e_fl T.fl_own_high (v C.toCt S 0)) (e_fl T.fl_own_low (v C.toCt S 0)))) (dss_one (ds_ret (de_tup (da_cons rfl (v C.toCt S 2) (da_cons rfl (de_bin o_add (de_int) (e_dp C.toCt S 0 F_whole_above T.gd_whole_above (da_cons rfl (e_me C.toCt 0 T.cl_Ratio T.me_Ratio_over F_Ratio_over (fun _ h => kb_Ratio_over_1 h) (de_two (w_subU C.toCt T F_Ratio___sub__) (v C.toCt S 2) (v C.toCt S 1)) (da_cons rfl (e_fl T.fl_own_plus (v C.toCt S 0)) (da_nil)) (dk_nil)) (da_nil)))) (da_nil))))))
theorem ok_Move_tends (T : Txt K mg base cl) (F_Ratio_of : Df P w K mg base cl 5 "of" "Ratio.of" (st_Ratio_of) [] (He5.wf K (cl 0) "classmethod" "of") ["cls", "number"] m_Ratio_of) (F_Ratio___eq__ : Df P w K mg base cl 2 "__eq__" "Ratio.__eq__" (st_Ratio___eq__) [] (He.ma K (cl 0) "__eq__") ["self", "other"] m_Ratio___eq__) (F_Move_at : Df P w K mg base cl 9 "at" "Move.at" (st_Move_at) [] (He.ma K (cl 2) "at") ["self", "number"] m_Move_at) (F_Move_counted : Df P w K mg base cl 8 "counted" "Move.counted" (st_Move_counted) [] (He.ma K (cl 2) "counted") ["self", "now"] m_Move_counted) (F_Ratio_over : Df P w K mg base cl 6 "over" "Ratio.over" (st_Ratio_over) [] (He.ma K (cl 0) "over") ["self", "other"] m_Ratio_over) (F_Move_held : Df P w K mg base cl 8 "held" "Move.held" (st_Move_held) [] (He.ma K (cl 2) "held") ["self", "number"] m_Move_held) {fd : FuncData} (F : FunD K "tends" "Move.tends" (defArgs st_Move_tends) (defBody st_Move_tends) (defScope st_Move_tends) [] [] (He.ma K (cl 2) "tends") fd) : Df P w K mg base cl 10 "tends" "Move.tends" (st_Move_tends) [] (He.ma K (cl 2) "tends") ["self", "number"] m_Move_tends := by
  unfold m_Move_tends
  exact
  fn_u (N := ["self", "number", "now", "rest", "limit", "turns"]) (k := 9) (st := st_Move_tends) F ⟨rfl, rfl, rfl, by decide +kernel, rfl, by decide +kernel, by decide +kernel⟩ (fun _ _ _ _ _ _ us h => match us, h with | [_, _], _ => rfl) fun cdv A outer s H E C =>
    have S := C.toCt.seen (U := [1, 0, 2, 3, 4, 5]) (L := [2, 3, 5]) (G := ["Ratio"]) (by decide +kernel)
    dss_cons (s_set C S 2 (e_cm C.toCt 0 T.cr_Ratio T.cm_Ratio_of F_Ratio_of (fun _ h => kb_Ratio_of_1 h) (e_cls C.toCt S 0 T.gc_Ratio) (da_cons rfl (v C.toCt S 1) (da_nil)) (dk_nil))) (dss_cons (ds_if (dt_cmpW (w_eqR C.toCt T F_Ratio___eq__) (e_me C.toCt 2 T.cl_Move T.me_Move_at F_Move_at (fun _ h => kb_Move_at_1 h) (v C.toCt S 0) (da_cons rfl (v C.toCt S 2) (da_nil)) (dk_nil)) (v C.toCt S 2) rfl) (dss_one (ds_ret (de_tup (da_cons rfl (v C.toCt S 2) (da_cons rfl (de_int) (da_nil)))))) (dss_nil)) (dss_cons (s_set C S 2 (e_me C.toCt 2 T.cl_Move T.me_Move_at F_Move_at (fun _ h => kb_Move_at_1 h) (v C.toCt S 0) (da_cons rfl (v C.toCt S 2) (da_nil)) (dk_nil))) (dss_cons (ds_if (dt_cmpW (w_eqR C.toCt T F_Ratio___eq__) (e_me C.toCt 2 T.cl_Move T.me_Move_at F_Move_at (fun _ h => kb_Move_at_1 h) (v C.toCt S 0) (da_cons rfl (v C.toCt S 2) (da_nil)) (dk_nil)) (v C.toCt S 2) rfl) (dss_one (ds_ret (de_tup (da_cons rfl (v C.toCt S 2) (da_cons rfl (de_int) (da_nil)))))) (dss_nil)) (dss_cons (ds_if (dt_cmpW (w_eqR C.toCt T F_Ratio___eq__) (e_fl T.fl_own_divisor (v C.toCt S 0)) (de_int) rfl) (dss_one (ds_ret (e_me C.toCt 2 T.cl_Move T.me_Move_counted F_Move_counted (fun _ h => kb_Move_counted_1 h) (v C.toCt S 0) (da_cons rfl (v C.toCt S 2) (da_nil)) (dk_nil)))) (dss_nil)) (dss_cons (s_set C S 3 (e_me C.toCt 0 T.cl_Ratio T.me_Ratio_over F_Ratio_over (fun _ h => kb_Ratio_over_1 h) (e_fl T.fl_own_plus (v C.toCt S 0)) (da_cons rfl (de_bin o_subI (e_fl T.fl_own_divisor (v C.toCt S 0)) (de_int)) (da_nil)) (dk_nil))) (dss_cons (s_par2 C 4 5 (da_cons rfl (e_me C.toCt 2 T.cl_Move T.me_Move_held F_Move_held (fun _ h => kb_Move_held_1 h) (v C.toCt S 0) (da_cons rfl (v C.toCt S 3) (da_nil)) (dk_nil)) (da_cons rfl (de_int) (da_nil))) (by decide +kernel) (by decide +kernel) rfl) (dss_cons (ds_if (dt_cmpW (w_eqR C.toCt T F_Ratio___eq__) (v C.toCt S 4) (v C.toCt S 3) rfl) (dss_one (ds_ret (de_tup (da_cons rfl (v C.toCt S 4) (da_cons rfl (de_non) (da_nil)))))) (dss_nil)) (dss_cons (s_while C fuel_Move_tends (dt_cmpW (w_neR C.toCt T F_Ratio___eq__) (v C.toCt S 2) (v C.toCt S 4) rfl) (dss_cons (s_set C S 2 (e_me C.toCt 2 T.cl_Move T.me_Move_at F_Move_at (fun _ h => kb_Move_at_1 h) (v C.toCt S 0) (da_cons rfl (v C.toCt S 2) (da_nil)) (dk_nil))) (dss_one (s_aug C S 5 (de_int))))) (dss_one (ds_ret (de_tup (da_cons rfl (v C.toCt S 4) (da_cons rfl (v C.toCt S 5) (da_nil))))))))))))))
theorem ok__law_moves_right (T : Txt K mg base cl) (F_Ratio___eq__ : Df P w K mg base cl 2 "__eq__" "Ratio.__eq__" (st_Ratio___eq__) [] (He.ma K (cl 0) "__eq__") ["self", "other"] m_Ratio___eq__) (F_Range___eq__ : Df P w K mg base cl 7 "__eq__" "Range.__eq__" (st_Range___eq__) [] (He.ma K (cl 1) "__eq__") ["self", "other"] m_Range___eq__) (F_Move___eq__ : Df P w K mg base cl 7 "__eq__" "Move.__eq__" (st_Move___eq__) [] (He.ma K (cl 2) "__eq__") ["self", "other"] m_Move___eq__) (F_Move_at : Df P w K mg base cl 9 "at" "Move.at" (st_Move_at) [] (He.ma K (cl 2) "at") ["self", "number"] m_Move_at) (F_Move_then : Df P w K mg base cl 10 "then" "Move.then" (st_Move_then) [] (He.ma K (cl 2) "then") ["self", "other"] m_Move_then) (F_Move_back : Df P w K mg base cl 10 "back" "Move.back" (st_Move_back) [] (He.ma K (cl 2) "back") ["self", "cut", "within"] m_Move_back) (F_Move_form : Df P w K mg base cl 10 "form" "Move.form" (st_Move_form) [] (He.ma K (cl 2) "form") ["self", "within"] m_Move_form) (F_Move_upper_image : Df P w K mg base cl 10 "upper_image" "Move.upper_image" (st_Move_upper_image) [] (He.ma K (cl 2) "upper_image") ["self", "cut"] m_Move_upper_image) (F_Move_lower_image : Df P w K mg base cl 10 "lower_image" "Move.lower_image" (st_Move_lower_image) [] (He.ma K (cl 2) "lower_image") ["self", "cut"] m_Move_lower_image) (F_Move_upper_limit : Df P w K mg base cl 11 "upper_limit" "Move.upper_limit" (st_Move_upper_limit) [] (He.ma K (cl 2) "upper_limit") ["self", "cut"] m_Move_upper_limit) (F_Move_lower_limit : Df P w K mg base cl 11 "lower_limit" "Move.lower_limit" (st_Move_lower_limit) [] (He.ma K (cl 2) "lower_limit") ["self", "cut"] m_Move_lower_limit) (F_Move_is_alike : Df P w K mg base cl 11 "is_alike" "Move.is_alike" (st_Move_is_alike) [] (He.ma K (cl 2) "is_alike") ["self", "other", "within"] m_Move_is_alike) (F_Move_done : Df P w K mg base cl 11 "done" "Move.done" (st_Move_done) [] (He.ma K (cl 2) "done") ["self", "times"] m_Move_done) (F_Move_tends : Df P w K mg base cl 10 "tends" "Move.tends" (st_Move_tends) [] (He.ma K (cl 2) "tends") ["self", "number"] m_Move_tends) (F_Move_divisor : Df P w K mg base cl 1 "divisor" "Move.divisor" (st_Move_divisor) [] (He5.wf K (cl 2) "property" "divisor") ["self"] m_Move_divisor) (F_Move_plus : Df P w K mg base cl 1 "plus" "Move.plus" (st_Move_plus) [] (He5.wf K (cl 2) "property" "plus") ["self"] m_Move_plus) (F_Range_low : Df P w K mg base cl 1 "low" "Range.low" (st_Range_low) [] (He5.wf K (cl 1) "property" "low") ["self"] m_Range_low) (F_Move_low : Df P w K mg base cl 1 "low" "Move.low" (st_Move_low) [] (He5.wf K (cl 2) "property" "low") ["self"] m_Move_low) (F_Range_high : Df P w K mg base cl 1 "high" "Range.high" (st_Range_high) [] (He5.wf K (cl 1) "property" "high") ["self"] m_Range_high) (F_Move_high : Df P w K mg base cl 1 "high" "Move.high" (st_Move_high) [] (He5.wf K (cl 2) "property" "high") ["self"] m_Move_high) {fd : FuncData} (F : FunD K "_law_moves_right" "_law_moves_right" (defArgs st__law_moves_right) (defBody st__law_moves_right) (defScope st__law_moves_right) [] [] (He.ga K "_law_moves_right") fd) : Df P w K mg base cl 12 "_law_moves_right" "_law_moves_right" (st__law_moves_right) [] (He.ga K "_law_moves_right") ["_law_made", "_law_held", "_law_further", "_law_spot", "_law_part"] m__law_moves_right := by
  unfold m__law_moves_right
  exact
  fn_u (N := ["_law_made", "_law_held", "_law_further", "_law_spot", "_law_part"]) (k := 11) (st := st__law_moves_right) F ⟨rfl, rfl, rfl, by decide +kernel, rfl, by decide +kernel, by decide +kernel⟩ (fun _ _ _ _ _ _ us h => match us, h with | [_, _, _, _, _], _ => rfl) fun cdv A outer s H E C =>
    have S := C.toCt.seen (U := [0, 4, 2, 1, 3]) (L := []) (G := []) (by decide +kernel)
    dss_cons (ds_if (PW.pt (dw_or (dt_cmpW (w_neU C.toCt T F_Ratio___eq__ F_Range___eq__ F_Move___eq__) (e_me C.toCt 2 T.cl_Move T.me_Move_at F_Move_at (fun _ h => kb_Move_at_0_number h) (v C.toCt S 0) (da_nil) (dk_cons (v C.toCt S 4) (dk_nil))) (e_me C.toCt 2 T.cl_Move T.me_Move_at F_Move_at (fun _ h => kb_Move_at_1 h) (v C.toCt S 0) (da_cons rfl (v C.toCt S 4) (da_nil)) (dk_nil)) rfl) (dw_or1 (dt_cmpW (w_neU C.toCt T F_Ratio___eq__ F_Range___eq__ F_Move___eq__) (e_me C.toCt 2 T.cl_Move T.me_Move_then F_Move_then (fun _ h => kb_Move_then_0_other h) (v C.toCt S 0) (da_nil) (dk_cons (v C.toCt S 2) (dk_nil))) (e_me C.toCt 2 T.cl_Move T.me_Move_then F_Move_then (fun _ h => kb_Move_then_1 h) (v C.toCt S 0) (da_cons rfl (v C.toCt S 2) (da_nil)) (dk_nil)) rfl)))) (dss_one (ds_ret (de_bl))) (dss_nil)) (dss_cons (ds_if (PW.pt (dw_or (dt_cmpW (w_neU C.toCt T F_Ratio___eq__ F_Range___eq__ F_Move___eq__) (e_me C.toCt 2 T.cl_Move T.me_Move_back F_Move_back (fun _ h => kb_Move_back_0_within_cut h) (v C.toCt S 0) (da_nil) (dk_cons (v C.toCt S 1) (dk_cons (v C.toCt S 3) (dk_nil)))) (e_me C.toCt 2 T.cl_Move T.me_Move_back F_Move_back (fun _ h => kb_Move_back_2 h) (v C.toCt S 0) (da_cons rfl (v C.toCt S 3) (da_cons rfl (v C.toCt S 1) (da_nil))) (dk_nil)) rfl) (dw_or1 (dt_cmpW (w_neU C.toCt T F_Ratio___eq__ F_Range___eq__ F_Move___eq__) (e_me C.toCt 2 T.cl_Move T.me_Move_form F_Move_form (fun _ h => kb_Move_form_0_within h) (v C.toCt S 0) (da_nil) (dk_cons (v C.toCt S 1) (dk_nil))) (e_me C.toCt 2 T.cl_Move T.me_Move_form F_Move_form (fun _ h => kb_Move_form_1 h) (v C.toCt S 0) (da_cons rfl (v C.toCt S 1) (da_nil)) (dk_nil)) rfl)))) (dss_one (ds_ret (de_bl))) (dss_nil)) (dss_cons (ds_if (PW.pt (dw_or (dt_cmpW (w_neU C.toCt T F_Ratio___eq__ F_Range___eq__ F_Move___eq__) (e_me C.toCt 2 T.cl_Move T.me_Move_upper_image F_Move_upper_image (fun _ h => kb_Move_upper_image_0_cut h) (v C.toCt S 0) (da_nil) (dk_cons (v C.toCt S 3) (dk_nil))) (e_me C.toCt 2 T.cl_Move T.me_Move_upper_image F_Move_upper_image (fun _ h => kb_Move_upper_image_1 h) (v C.toCt S 0) (da_cons rfl (v C.toCt S 3) (da_nil)) (dk_nil)) rfl) (dw_or1 (dt_cmpW (w_neU C.toCt T F_Ratio___eq__ F_Range___eq__ F_Move___eq__) (e_me C.toCt 2 T.cl_Move T.me_Move_lower_image F_Move_lower_image (fun _ h => kb_Move_lower_image_0_cut h) (v C.toCt S 0) (da_nil) (dk_cons (v C.toCt S 3) (dk_nil))) (e_me C.toCt 2 T.cl_Move T.me_Move_lower_image F_Move_lower_image (fun _ h => kb_Move_lower_image_1 h) (v C.toCt S 0) (da_cons rfl (v C.toCt S 3) (da_nil)) (dk_nil)) rfl)))) (dss_one (ds_ret (de_bl))) (dss_nil)) (dss_cons (ds_if (PW.pt (dw_or (dt_cmpW (w_neU C.toCt T F_Ratio___eq__ F_Range___eq__ F_Move___eq__) (e_me C.toCt 2 T.cl_Move T.me_Move_upper_limit F_Move_upper_limit (fun _ h => kb_Move_upper_limit_0_cut h) (v C.toCt S 0) (da_nil) (dk_cons (v C.toCt S 3) (dk_nil))) (e_me C.toCt 2 T.cl_Move T.me_Move_upper_limit F_Move_upper_limit (fun _ h => kb_Move_upper_limit_1 h) (v C.toCt S 0) (da_cons rfl (v C.toCt S 3) (da_nil)) (dk_nil)) rfl) (dw_or1 (dt_cmpW (w_neU C.toCt T F_Ratio___eq__ F_Range___eq__ F_Move___eq__) (e_me C.toCt 2 T.cl_Move T.me_Move_lower_limit F_Move_lower_limit (fun _ h => kb_Move_lower_limit_0_cut h) (v C.toCt S 0) (da_nil) (dk_cons (v C.toCt S 3) (dk_nil))) (e_me C.toCt 2 T.cl_Move T.me_Move_lower_limit F_Move_lower_limit (fun _ h => kb_Move_lower_limit_1 h) (v C.toCt S 0) (da_cons rfl (v C.toCt S 3) (da_nil)) (dk_nil)) rfl)))) (dss_one (ds_ret (de_bl))) (dss_nil)) (dss_cons (ds_if (dt_cmpW (w_neU C.toCt T F_Ratio___eq__ F_Range___eq__ F_Move___eq__) (e_me C.toCt 2 T.cl_Move T.me_Move_is_alike F_Move_is_alike (fun _ h => kb_Move_is_alike_0_within_other h) (v C.toCt S 0) (da_nil) (dk_cons (v C.toCt S 1) (dk_cons (v C.toCt S 2) (dk_nil)))) (e_me C.toCt 2 T.cl_Move T.me_Move_is_alike F_Move_is_alike (fun _ h => kb_Move_is_alike_2 h) (v C.toCt S 0) (da_cons rfl (v C.toCt S 2) (da_cons rfl (v C.toCt S 1) (da_nil))) (dk_nil)) rfl) (dss_one (ds_ret (de_bl))) (dss_nil)) (dss_cons (ds_if (PW.pt (dw_or (dt_cmpW (w_neU C.toCt T F_Ratio___eq__ F_Range___eq__ F_Move___eq__) (e_me C.toCt 2 T.cl_Move T.me_Move_done F_Move_done (fun _ h => kb_Move_done_0_times h) (v C.toCt S 0) (da_nil) (dk_cons (de_int) (dk_nil))) (e_me C.toCt 2 T.cl_Move T.me_Move_done F_Move_done (fun _ h => kb_Move_done_1 h) (v C.toCt S 0) (da_cons rfl (de_int) (da_nil)) (dk_nil)) rfl) (dw_or1 (dt_cmpW (w_neU C.toCt T F_Ratio___eq__ F_Range___eq__ F_Move___eq__) (e_me C.toCt 2 T.cl_Move T.me_Move_tends F_Move_tends (fun _ h => kb_Move_tends_0_number h) (v C.toCt S 0) (da_nil) (dk_cons (v C.toCt S 4) (dk_nil))) (e_me C.toCt 2 T.cl_Move T.me_Move_tends F_Move_tends (fun _ h => kb_Move_tends_1 h) (v C.toCt S 0) (da_cons rfl (v C.toCt S 4) (da_nil)) (dk_nil)) rfl)))) (dss_one (ds_ret (de_bl))) (dss_nil)) (dss_one (ds_ret (de_and (de_cmpW (w_eqU C.toCt T F_Ratio___eq__ F_Range___eq__ F_Move___eq__) (v C.toCt S 0) (e_me C.toCt 2 T.cl_Move T.me_Move_done F_Move_done (fun _ h => kb_Move_done_1 h) (v C.toCt S 0) (da_cons rfl (de_int) (da_nil)) (dk_nil)) rfl) (de_one (de_cmpW (w_neU C.toCt T F_Ratio___eq__ F_Range___eq__ F_Move___eq__) (v C.toCt S 0) (de_tup (da_cons rfl (e_pr C.toCt (pt_one T.cl_Move T.pr_Move_divisor F_Move_divisor) (v C.toCt S 0)) (da_cons rfl (e_pr C.toCt (pt_one T.cl_Move T.pr_Move_plus F_Move_plus) (v C.toCt S 0)) (da_cons rfl (e_pr C.toCt (pt_two (k' := 1) (pt_one T.cl_Range T.pr_Range_low F_Range_low) (pt_one T.cl_Move T.pr_Move_low F_Move_low) (by decide) (by decide)) (v C.toCt S 0)) (da_cons rfl (e_pr C.toCt (pt_two (k' := 1) (pt_one T.cl_Range T.pr_Range_high F_Range_high) (pt_one T.cl_Move T.pr_Move_high F_Move_high) (by decide) (by decide)) (v C.toCt S 0)) (da_nil)))))) rfl))))))))))
theorem ok_Move_setting (T : Txt K mg base cl) (F_require_number : Df P w K mg base cl 4 "require_number" "require_number" (st_require_number) [] (He.ga K "require_number") ["value"] m_require_number) (F_Move___init__ : Df P w K mg base cl 6 "__init__" "Move.__init__" (st_Move___init__) [] (He.ma K (cl 2) "__init__") ["self", "divisor", "plus", "low", "high"] m_Move___init__) {fd : FuncData} (F : FunD K "setting" "Move.setting" (defArgs st_Move_setting) (defBody st_Move_setting) (defScope st_Move_setting) [] [] (He5.wf K (cl 2) "classmethod" "setting") fd) : Df P w K mg base cl 8 "setting" "Move.setting" (st_Move_setting) [] (He5.wf K (cl 2) "classmethod" "setting") ["cls", "number"] m_Move_setting := by
  unfold m_Move_setting
  exact
  fn_u (N := ["cls", "number"]) (k := 7) (st := st_Move_setting) F ⟨rfl, rfl, rfl, by decide +kernel, rfl, by decide +kernel, by decide +kernel⟩ (fun _ _ _ _ _ _ us h => match us, h with | [_, _], _ => rfl) fun cdv A outer s H E C =>
    have S := C.toCt.seen (U := [1, 0]) (L := []) (G := ["require_number"]) (by decide +kernel)
    dss_cons (ds_drop rfl (e_dp C.toCt S 0 F_require_number T.gd_require_number (da_cons rfl (v C.toCt S 1) (da_nil)))) (dss_one (ds_ret (e_mkL C.toCt S 0 T.mk_Move F_Move___init__ (fun _ h => kb_Move___init___4 h) (da_cons rfl (de_int) (da_cons rfl (de_int) (da_cons rfl (v C.toCt S 1) (da_cons rfl (v C.toCt S 1) (da_nil))))) (dk_nil))))
theorem ok_Move_staying (T : Txt K mg base cl) (F_require_range : Df P w K mg base cl 2 "require_range" "require_range" (st_require_range) [] (He.ga K "require_range") ["value"] m_require_range) (F_Move___init__ : Df P w K mg base cl 6 "__init__" "Move.__init__" (st_Move___init__) [] (He.ma K (cl 2) "__init__") ["self", "divisor", "plus", "low", "high"] m_Move___init__) (F_Range_low : Df P w K mg base cl 1 "low" "Range.low" (st_Range_low) [] (He5.wf K (cl 1) "property" "low") ["self"] m_Range_low) (F_Move_low : Df P w K mg base cl 1 "low" "Move.low" (st_Move_low) [] (He5.wf K (cl 2) "property" "low") ["self"] m_Move_low) (F_Range_high : Df P w K mg base cl 1 "high" "Range.high" (st_Range_high) [] (He5.wf K (cl 1) "property" "high") ["self"] m_Range_high) (F_Move_high : Df P w K mg base cl 1 "high" "Move.high" (st_Move_high) [] (He5.wf K (cl 2) "property" "high") ["self"] m_Move_high) {fd : FuncData} (F : FunD K "staying" "Move.staying" (defArgs st_Move_staying) (defBody st_Move_staying) (defScope st_Move_staying) [] [] (He5.wf K (cl 2) "classmethod" "staying") fd) : Df P w K mg base cl 8 "staying" "Move.staying" (st_Move_staying) [] (He5.wf K (cl 2) "classmethod" "staying") ["cls", "within"] m_Move_staying := by
  unfold m_Move_staying
  exact
  fn_u (N := ["cls", "within"]) (k := 7) (st := st_Move_staying) F ⟨rfl, rfl, rfl, by decide +kernel, rfl, by decide +kernel, by decide +kernel⟩ (fun _ _ _ _ _ _ us h => match us, h with | [_, _], _ => rfl) fun cdv A outer s H E C =>
    have S := C.toCt.seen (U := [1, 0]) (L := []) (G := ["require_range"]) (by decide +kernel)
    dss_cons (ds_drop rfl (e_dp C.toCt S 0 F_require_range T.gd_require_range (da_cons rfl (v C.toCt S 1) (da_nil)))) (dss_one (ds_ret (e_mkL C.toCt S 0 T.mk_Move F_Move___init__ (fun _ h => kb_Move___init___4 h) (da_cons rfl (de_int) (da_cons rfl (de_int) (da_cons rfl (e_pr C.toCt (pt_two (k' := 1) (pt_one T.cl_Range T.pr_Range_low F_Range_low) (pt_one T.cl_Move T.pr_Move_low F_Move_low) (by decide) (by decide)) (v C.toCt S 1)) (da_cons rfl (e_pr C.toCt (pt_two (k' := 1) (pt_one T.cl_Range T.pr_Range_high F_Range_high) (pt_one T.cl_Move T.pr_Move_high F_Move_high) (by decide) (by decide)) (v C.toCt S 1)) (da_nil))))) (dk_nil))))
theorem ok_Move_adding (T : Txt K mg base cl) (F_require_number : Df P w K mg base cl 4 "require_number" "require_number" (st_require_number) [] (He.ga K "require_number") ["value"] m_require_number) (F_require_range : Df P w K mg base cl 2 "require_range" "require_range" (st_require_range) [] (He.ga K "require_range") ["value"] m_require_range) (F_Move___init__ : Df P w K mg base cl 6 "__init__" "Move.__init__" (st_Move___init__) [] (He.ma K (cl 2) "__init__") ["self", "divisor", "plus", "low", "high"] m_Move___init__) (F_Range_low : Df P w K mg base cl 1 "low" "Range.low" (st_Range_low) [] (He5.wf K (cl 1) "property" "low") ["self"] m_Range_low) (F_Move_low : Df P w K mg base cl 1 "low" "Move.low" (st_Move_low) [] (He5.wf K (cl 2) "property" "low") ["self"] m_Move_low) (F_Range_high : Df P w K mg base cl 1 "high" "Range.high" (st_Range_high) [] (He5.wf K (cl 1) "property" "high") ["self"] m_Range_high) (F_Move_high : Df P w K mg base cl 1 "high" "Move.high" (st_Move_high) [] (He5.wf K (cl 2) "property" "high") ["self"] m_Move_high) {fd : FuncData} (F : FunD K "adding" "Move.adding" (defArgs st_Move_adding) (defBody st_Move_adding) (defScope st_Move_adding) [] [] (He5.wf K (cl 2) "classmethod" "adding") fd) : Df P w K mg base cl 8 "adding" "Move.adding" (st_Move_adding) [] (He5.wf K (cl 2) "classmethod" "adding") ["cls", "number", "within"] m_Move_adding := by
  unfold m_Move_adding
  exact
  fn_u (N := ["cls", "number", "within"]) (k := 7) (st := st_Move_adding) F ⟨rfl, rfl, rfl, by decide +kernel, rfl, by decide +kernel, by decide +kernel⟩ (fun _ _ _ _ _ _ us h => match us, h with | [_, _, _], _ => rfl) fun cdv A outer s H E C =>
    have S := C.toCt.seen (U := [1, 2, 0]) (L := []) (G := ["require_number", "require_range"]) (by decide +kernel)
    dss_cons (ds_drop rfl (e_dp C.toCt S 0 F_require_number T.gd_require_number (da_cons rfl (v C.toCt S 1) (da_nil)))) (dss_cons (ds_drop rfl (e_dp C.toCt S 1 F_require_range T.gd_require_range (da_cons rfl (v C.toCt S 2) (da_nil)))) (dss_one (ds_ret (e_mkL C.toCt S 0 T.mk_Move F_Move___init__ (fun _ h => kb_Move___init___4 h) (da_cons rfl (de_int) (da_cons rfl (v C.toCt S 1) (da_cons rfl (e_pr C.toCt (pt_two (k' := 1) (pt_one T.cl_Range T.pr_Range_low F_Range_low) (pt_one T.cl_Move T.pr_Move_low F_Move_low) (by decide) (by decide)) (v C.toCt S 2)) (da_cons rfl (e_pr C.toCt (pt_two (k' := 1) (pt_one T.cl_Range T.pr_Range_high F_Range_high) (pt_one T.cl_Move T.pr_Move_high F_Move_high) (by decide) (by decide)) (v C.toCt S 2)) (da_nil))))) (dk_nil)))))
theorem ok_Move_dividing (T : Txt K mg base cl) (F_is_integer : Df P w K mg base cl 2 "is_integer" "is_integer" (st_is_integer) [] (He.ga K "is_integer") ["value"] m_is_integer) (F_require_range : Df P w K mg base cl 2 "require_range" "require_range" (st_require_range) [] (He.ga K "require_range") ["value"] m_require_range) (F_Move___init__ : Df P w K mg base cl 6 "__init__" "Move.__init__" (st_Move___init__) [] (He.ma K (cl 2) "__init__") ["self", "divisor", "plus", "low", "high"] m_Move___init__) (F_Range_low : Df P w K mg base cl 1 "low" "Range.low" (st_Range_low) [] (He5.wf K (cl 1) "property" "low") ["self"] m_Range_low) (F_Move_low : Df P w K mg base cl 1 "low" "Move.low" (st_Move_low) [] (He5.wf K (cl 2) "property" "low") ["self"] m_Move_low) (F_Range_high : Df P w K mg base cl 1 "high" "Range.high" (st_Range_high) [] (He5.wf K (cl 1) "property" "high") ["self"] m_Range_high) (F_Move_high : Df P w K mg base cl 1 "high" "Move.high" (st_Move_high) [] (He5.wf K (cl 2) "property" "high") ["self"] m_Move_high) {fd : FuncData} (F : FunD K "dividing" "Move.dividing" (defArgs st_Move_dividing) (defBody st_Move_dividing) (defScope st_Move_dividing) [] [] (He5.wf K (cl 2) "classmethod" "dividing") fd) : Df P w K mg base cl 8 "dividing" "Move.dividing" (st_Move_dividing) [] (He5.wf K (cl 2) "classmethod" "dividing") ["cls", "divisor", "within"] m_Move_dividing := by
  unfold m_Move_dividing
  exact
  fn_u (N := ["cls", "divisor", "within"]) (k := 7) (st := st_Move_dividing) F ⟨rfl, rfl, rfl, by decide +kernel, rfl, by decide +kernel, by decide +kernel⟩ (fun _ _ _ _ _ _ us h => match us, h with | [_, _, _], _ => rfl) fun cdv A outer s H E C =>
    have S := C.toCt.seen (U := [1, 2, 0]) (L := []) (G := ["is_integer", "require_range"]) (by decide +kernel)
    dss_cons (ds_if (PW.pt (dw_or (dt_not (dt_tru rfl (e_dp C.toCt S 0 F_is_integer T.gd_is_integer (da_cons rfl (v C.toCt S 1) (da_nil))))) (dw_or1 (dt_cmp o_ltI (v C.toCt S 1) (de_int) rfl)))) (dss_one (ds_bad)) (dss_nil)) (dss_cons (ds_drop rfl (e_dp C.toCt S 1 F_require_range T.gd_require_range (da_cons rfl (v C.toCt S 2) (da_nil)))) (dss_one (ds_ret (e_mkL C.toCt S 0 T.mk_Move F_Move___init__ (fun _ h => kb_Move___init___4 h) (da_cons rfl (v C.toCt S 1) (da_cons rfl (de_int) (da_cons rfl (e_pr C.toCt (pt_two (k' := 1) (pt_one T.cl_Range T.pr_Range_low F_Range_low) (pt_one T.cl_Move T.pr_Move_low F_Move_low) (by decide) (by decide)) (v C.toCt S 2)) (da_cons rfl (e_pr C.toCt (pt_two (k' := 1) (pt_one T.cl_Range T.pr_Range_high F_Range_high) (pt_one T.cl_Move T.pr_Move_high F_Move_high) (by decide) (by decide)) (v C.toCt S 2)) (da_nil))))) (dk_nil)))))
theorem ok__law_class_methods_right (T : Txt K mg base cl) (F_Ratio___eq__ : Df P w K mg base cl 2 "__eq__" "Ratio.__eq__" (st_Ratio___eq__) [] (He.ma K (cl 0) "__eq__") ["self", "other"] m_Ratio___eq__) (F_Range___eq__ : Df P w K mg base cl 7 "__eq__" "Range.__eq__" (st_Range___eq__) [] (He.ma K (cl 1) "__eq__") ["self", "other"] m_Range___eq__) (F_Move___eq__ : Df P w K mg base cl 7 "__eq__" "Move.__eq__" (st_Move___eq__) [] (He.ma K (cl 2) "__eq__") ["self", "other"] m_Move___eq__) (F_Move_setting : Df P w K mg base cl 8 "setting" "Move.setting" (st_Move_setting) [] (He5.wf K (cl 2) "classmethod" "setting") ["cls", "number"] m_Move_setting) (F_Move_staying : Df P w K mg base cl 8 "staying" "Move.staying" (st_Move_staying) [] (He5.wf K (cl 2) "classmethod" "staying") ["cls", "within"] m_Move_staying) (F_Move_adding : Df P w K mg base cl 8 "adding" "Move.adding" (st_Move_adding) [] (He5.wf K (cl 2) "classmethod" "adding") ["cls", "number", "within"] m_Move_adding) (F_Move_dividing : Df P w K mg base cl 8 "dividing" "Move.dividing" (st_Move_dividing) [] (He5.wf K (cl 2) "classmethod" "dividing") ["cls", "divisor", "within"] m_Move_dividing) {fd : FuncData} (F : FunD K "_law_class_methods_right" "_law_class_methods_right" (defArgs st__law_class_methods_right) (defBody st__law_class_methods_right) (defScope st__law_class_methods_right) [] [] (He.ga K "_law_class_methods_right") fd) : Df P w K mg base cl 12 "_law_class_methods_right" "_law_class_methods_right" (st__law_class_methods_right) [] (He.ga K "_law_class_methods_right") ["_law_held", "_law_by", "_law_part"] m__law_class_methods_right := by
  unfold m__law_class_methods_right
  exact
  fn_u (N := ["_law_held", "_law_by", "_law_part"]) (k := 11) (st := st__law_class_methods_right) F ⟨rfl, rfl, rfl, by decide +kernel, rfl, by decide +kernel, by decide +kernel⟩ (fun _ _ _ _ _ _ us h => match us, h with | [_, _, _], _ => rfl) fun cdv A outer s H E C =>
    have S := C.toCt.seen (U := [2, 0, 1]) (L := []) (G := ["Move"]) (by decide +kernel)
    dss_cons (ds_if (PW.pt (dw_or (dt_cmpW (w_neU C.toCt T F_Ratio___eq__ F_Range___eq__ F_Move___eq__) (e_cm C.toCt 2 T.cr_Move T.cm_Move_setting F_Move_setting (fun _ h => kb_Move_setting_0_number h) (e_cls C.toCt S 0 T.gc_Move) (da_nil) (dk_cons (v C.toCt S 2) (dk_nil))) (e_cm C.toCt 2 T.cr_Move T.cm_Move_setting F_Move_setting (fun _ h => kb_Move_setting_1 h) (e_cls C.toCt S 0 T.gc_Move) (da_cons rfl (v C.toCt S 2) (da_nil)) (dk_nil)) rfl) (dw_or1 (dt_cmpW (w_neU C.toCt T F_Ratio___eq__ F_Range___eq__ F_Move___eq__) (e_cm C.toCt 2 T.cr_Move T.cm_Move_staying F_Move_staying (fun _ h => kb_Move_staying_0_within h) (e_cls C.toCt S 0 T.gc_Move) (da_nil) (dk_cons (v C.toCt S 0) (dk_nil))) (e_cm C.toCt 2 T.cr_Move T.cm_Move_staying F_Move_staying (fun _ h => kb_Move_staying_1 h) (e_cls C.toCt S 0 T.gc_Move) (da_cons rfl (v C.toCt S 0) (da_nil)) (dk_nil)) rfl)))) (dss_one (ds_ret (de_bl))) (dss_nil)) (dss_cons (ds_if (dt_cmpW (w_neU C.toCt T F_Ratio___eq__ F_Range___eq__ F_Move___eq__) (e_cm C.toCt 2 T.cr_Move T.cm_Move_adding F_Move_adding (fun _ h => kb_Move_adding_0_within_number h) (e_cls C.toCt S 0 T.gc_Move) (da_nil) (dk_cons (v C.toCt S 0) (dk_cons (v C.toCt S 2) (dk_nil)))) (e_cm C.toCt 2 T.cr_Move T.cm_Move_adding F_Move_adding (fun _ h => kb_Move_adding_2 h) (e_cls C.toCt S 0 T.gc_Move) (da_cons rfl (v C.toCt S 2) (da_cons rfl (v C.toCt S 0) (da_nil))) (dk_nil)) rfl) (dss_one (ds_ret (de_bl))) (dss_nil)) (dss_one (ds_ret (de_cmpW (w_eqU C.toCt T F_Ratio___eq__ F_Range___eq__ F_Move___eq__) (e_cm C.toCt 2 T.cr_Move T.cm_Move_dividing F_Move_dividing (fun _ h => kb_Move_dividing_0_within_divisor h) (e_cls C.toCt S 0 T.gc_Move) (da_nil) (dk_cons (v C.toCt S 0) (dk_cons (v C.toCt S 1) (dk_nil)))) (e_cm C.toCt 2 T.cr_Move T.cm_Move_dividing F_Move_dividing (fun _ h => kb_Move_dividing_2 h) (e_cls C.toCt S 0 T.gc_Move) (da_cons rfl (v C.toCt S 1) (da_cons rfl (v C.toCt S 0) (da_nil))) (dk_nil)) rfl))))
theorem ok__law_right (T : Txt K mg base cl) (F__law_thing : Df P w K mg base cl 5 "_law_thing" "_law_thing" (st__law_thing) [] (He.ga K "_law_thing") ["_law_rng_here"] m__law_thing) (F_Ratio___eq__ : Df P w K mg base cl 2 "__eq__" "Ratio.__eq__" (st_Ratio___eq__) [] (He.ma K (cl 0) "__eq__") ["self", "other"] m_Ratio___eq__) (F_Range___eq__ : Df P w K mg base cl 7 "__eq__" "Range.__eq__" (st_Range___eq__) [] (He.ma K (cl 1) "__eq__") ["self", "other"] m_Range___eq__) (F_Move___eq__ : Df P w K mg base cl 7 "__eq__" "Move.__eq__" (st_Move___eq__) [] (He.ma K (cl 2) "__eq__") ["self", "other"] m_Move___eq__) (F__law_draw : Df P w K mg base cl 1 "_law_draw" "_law_draw" (st__law_draw) [] (He.ga K "_law_draw") ["_law_rng_here", "_law_many"] m__law_draw) (F__law_choice : Df P w K mg base cl 2 "_law_choice" "_law_choice" (st__law_choice) [] (He.ga K "_law_choice") ["_law_rng_here", "_law_some"] m__law_choice) (F__law_ratios_right : Df P w K mg base cl 7 "_law_ratios_right" "_law_ratios_right" (st__law_ratios_right) [] (He.ga K "_law_ratios_right") ["_law_first", "_law_second", "_law_top_part", "_law_bottom_part"] m__law_ratios_right) (F__law_cuts_right : Df P w K mg base cl 11 "_law_cuts_right" "_law_cuts_right" (st__law_cuts_right) [] (He.ga K "_law_cuts_right") ["_law_first", "_law_second", "_law_flags"] m__law_cuts_right) (F__law_ranges_right : Df P w K mg base cl 12 "_law_ranges_right" "_law_ranges_right" (st__law_ranges_right) [] (He.ga K "_law_ranges_right") ["_law_first", "_law_second", "_law_flags"] m__law_ranges_right) (F_Ratio_is_below : Df P w K mg base cl 6 "is_below" "Ratio.is_below" (st_Ratio_is_below) [] (He.ma K (cl 0) "is_below") ["self", "other"] m_Ratio_is_below) (F_Move___init__ : Df P w K mg base cl 6 "__init__" "Move.__init__" (st_Move___init__) [] (He.ma K (cl 2) "__init__") ["self", "divisor", "plus", "low", "high"] m_Move___init__) (F_Range___init__ : Df P w K mg base cl 6 "__init__" "Range.__init__" (st_Range___init__) [] (He.ma K (cl 1) "__init__") ["self", "low", "high"] m_Range___init__) (F_Move_divisor : Df P w K mg base cl 1 "divisor" "Move.divisor" (st_Move_divisor) [] (He5.wf K (cl 2) "property" "divisor") ["self"] m_Move_divisor) (F_Move_plus : Df P w K mg base cl 1 "plus" "Move.plus" (st_Move_plus) [] (He5.wf K (cl 2) "property" "plus") ["self"] m_Move_plus) (F_Range_low : Df P w K mg base cl 1 "low" "Range.low" (st_Range_low) [] (He5.wf K (cl 1) "property" "low") ["self"] m_Range_low) (F_Move_low : Df P w K mg base cl 1 "low" "Move.low" (st_Move_low) [] (He5.wf K (cl 2) "property" "low") ["self"] m_Move_low) (F_Range_high : Df P w K mg base cl 1 "high" "Range.high" (st_Range_high) [] (He5.wf K (cl 1) "property" "high") ["self"] m_Range_high) (F_Move_high : Df P w K mg base cl 1 "high" "Move.high" (st_Move_high) [] (He5.wf K (cl 2) "property" "high") ["self"] m_Move_high) (F__law_moves_right : Df P w K mg base cl 12 "_law_moves_right" "_law_moves_right" (st__law_moves_right) [] (He.ga K "_law_moves_right") ["_law_made", "_law_held", "_law_further", "_law_spot", "_law_part"] m__law_moves_right) (F__law_class_methods_right : Df P w K mg base cl 12 "_law_class_methods_right" "_law_class_methods_right" (st__law_class_methods_right) [] (He.ga K "_law_class_methods_right") ["_law_held", "_law_by", "_law_part"] m__law_class_methods_right) {fd : FuncData} (F : FunD K "_law_right" "_law_right" (defArgs st__law_right) (defBody st__law_right) (defScope st__law_right) [] [] (He.ga K "_law_right") fd) : Df P w K mg base cl 13 "_law_right" "_law_right" (st__law_right) [] (He.ga K "_law_right") ["_law_rng_here"] m__law_right := by
  unfold m__law_right
  exact
  fn_u (N := ("_law_rng_here" :: "_law_flags" :: "_law_bottom_part" :: "_law_turn" :: "_law_first" :: "_law_second" :: "_law_by" :: "_law_least" :: "_law_most" :: "_law_made" :: "_law_held" :: "_law_further" :: "_law_spot" :: [])) (k := 12) (st := st__law_right) F ⟨rfl, rfl, rfl, by decide +kernel, rfl, by decide +kernel, by decide +kernel⟩ (fun _ _ _ _ _ _ us h => match us, h with | [_], _ => rfl) fun cdv A outer s H E C =>
    have S := C.toCt.seen (U := [0, 4, 5, 2, 1, 8, 7, 6, 9, 10, 11, 12]) (L := [1, 2, 3]) (G := ["_law_thing", "_law_draw", "_law_choice", "_law_ratios_right", "_law_cuts_right", "_law_ranges_right", "Move", "Range", "range", "_law_moves_right", "_law_class_methods_right"]) (by decide +kernel)
    dss_cons (s_par2 C 4 5 (da_cons rfl (e_dp C.toCt S 0 F__law_thing T.gd__law_thing (da_cons rfl (v C.toCt S 0) (da_nil))) (da_cons rfl (e_dp C.toCt S 0 F__law_thing T.gd__law_thing (da_cons rfl (v C.toCt S 0) (da_nil))) (da_nil))) (by decide +kernel) (by decide +kernel) rfl) (dss_cons (s_set C S 1 (de_lst (da_cons rfl (de_cmpW (w_eqU C.toCt T F_Ratio___eq__ F_Range___eq__ F_Move___eq__) (e_dp C.toCt S 1 F__law_draw T.gd__law_draw (da_cons rfl (v C.toCt S 0) (da_cons rfl (de_int) (da_nil)))) (de_int) rfl) (da_cons rfl (de_cmpW (w_eqU C.toCt T F_Ratio___eq__ F_Range___eq__ F_Move___eq__) (e_dp C.toCt S 1 F__law_draw T.gd__law_draw (da_cons rfl (v C.toCt S 0) (da_cons rfl (de_int) (da_nil)))) (de_int) rfl) (da_nil))))) (dss_cons (s_set C S 2 (e_dp C.toCt S 2 F__law_choice T.gd__law_choice (da_cons rfl (v C.toCt S 0) (da_cons rfl (de_lst (da_cons rfl (de_int) (da_cons rfl (de_int) (da_cons rfl (de_neg (de_int)) (da_cons rfl (de_bin o_powI (de_int) (de_int)) (da_nil)))))) (da_nil))))) (dss_cons (ds_if (dt_not (dt_tru rfl (e_dp C.toCt S 3 F__law_ratios_right T.gd__law_ratios_right (da_cons rfl (v C.toCt S 4) (da_cons rfl (v C.toCt S 5) (da_cons rfl (de_bin o_subI (e_dp C.toCt S 1 F__law_draw T.gd__law_draw (da_cons rfl (v C.toCt S 0) (da_cons rfl (de_int) (da_nil)))) (de_int)) (da_cons rfl (v C.toCt S 2) (da_nil)))))))) (dss_one (ds_ret (de_bl))) (dss_nil)) (dss_cons (ds_if (PW.pt (dw_or (dt_not (dt_tru rfl (e_dp C.toCt S 4 F__law_cuts_right T.gd__law_cuts_right (da_cons rfl (v C.toCt S 4) (da_cons rfl (v C.toCt S 5) (da_cons rfl (v C.toCt S 1) (da_nil))))))) (dw_or1 (dt_not (dt_tru rfl (e_dp C.toCt S 5 F__law_ranges_right T.gd__law_ranges_right (da_cons rfl (v C.toCt S 4) (da_cons rfl (v C.toCt S 5) (da_cons rfl (v C.toCt S 1) (da_nil)))))))))) (dss_one (ds_ret (de_bl))) (dss_nil)) (dss_cons (s_par3 C 6 7 8 (da_cons rfl (de_bin o_add (de_int) (e_dp C.toCt S 1 F__law_draw T.gd__law_draw (da_cons rfl (v C.toCt S 0) (da_cons rfl (de_int) (da_nil))))) (da_cons rfl (v C.toCt S 4) (da_cons rfl (v C.toCt S 5) (da_nil)))) (by decide +kernel) (by decide +kernel) (by decide +kernel) rfl) (dss_cons (ds_if (dt_tru rfl (e_me C.toCt 0 T.cl_Ratio T.me_Ratio_is_below F_Ratio_is_below (fun _ h => kb_Ratio_is_below_1 h) (v C.toCt S 5) (da_cons rfl (v C.toCt S 4) (da_nil)) (dk_nil))) (dss_one (s_par2 C 7 8 (da_cons rfl (v C.toCt S 5) (da_cons rfl (v C.toCt S 4) (da_nil))) (by decide +kernel) (by decide +kernel) rfl)) (dss_nil)) (dss_cons (s_par2 C 9 10 (da_cons rfl (e_mk C.toCt S 6 T.mk_Move F_Move___init__ T.gc_Move (fun _ h => kb_Move___init___0_high_low_plus_divisor h) (da_nil) (dk_cons (v C.toCt S 8) (dk_cons (v C.toCt S 7) (dk_cons (v C.toCt S 5) (dk_cons (v C.toCt S 6) (dk_nil)))))) (da_cons rfl (e_mk C.toCt S 7 T.mk_Range F_Range___init__ T.gc_Range (fun _ h => kb_Range___init___2 h) (da_cons rfl (v C.toCt S 7) (da_cons rfl (v C.toCt S 8) (da_nil))) (dk_nil)) (da_nil))) (by decide +kernel) (by decide +kernel) rfl) (dss_cons (ds_if (PW.pt (dw_or (dt_cmpW (w_neU C.toCt T F_Ratio___eq__ F_Range___eq__ F_Move___eq__) (v C.toCt S 9) (e_mk C.toCt S 6 T.mk_Move F_Move___init__ T.gc_Move (fun _ h => kb_Move___init___4 h) (da_cons rfl (v C.toCt S 6) (da_cons rfl (v C.toCt S 5) (da_cons rfl (v C.toCt S 7) (da_cons rfl (v C.toCt S 8) (da_nil))))) (dk_nil)) rfl) (dw_or1 (dt_cmpW (w_neU C.toCt T F_Ratio___eq__ F_Range___eq__ F_Move___eq__) (de_lst (da_cons rfl (e_pr C.toCt (pt_one T.cl_Move T.pr_Move_divisor F_Move_divisor) (v C.toCt S 9)) (da_cons rfl (e_pr C.toCt (pt_one T.cl_Move T.pr_Move_plus F_Move_plus) (v C.toCt S 9)) (da_nil)))) (de_lst (da_cons rfl (v C.toCt S 6) (da_cons rfl (v C.toCt S 5) (da_nil)))) rfl)))) (dss_one (ds_ret (de_bl))) (dss_nil)) (dss_cons (ds_if (dt_cmpW (w_neU C.toCt T F_Ratio___eq__ F_Range___eq__ F_Move___eq__) (de_lst (da_cons rfl (e_pr C.toCt (pt_two (k' := 1) (pt_one T.cl_Range T.pr_Range_low F_Range_low) (pt_one T.cl_Move T.pr_Move_low F_Move_low) (by decide) (by decide)) (v C.toCt S 9)) (da_cons rfl (e_pr C.toCt (pt_two (k' := 1) (pt_one T.cl_Range T.pr_Range_high F_Range_high) (pt_one T.cl_Move T.pr_Move_high F_Move_high) (by decide) (by decide)) (v C.toCt S 9)) (da_nil)))) (de_lst (da_cons rfl (v C.toCt S 7) (da_cons rfl (v C.toCt S 8) (da_nil)))) rfl) (dss_one (ds_ret (de_bl))) (dss_nil)) (dss_cons (s_par2 C 11 12 (da_cons rfl (e_mk C.toCt S 6 T.mk_Move F_Move___init__ T.gc_Move (fun _ h => kb_Move___init___4 h) (da_cons rfl (de_int) (da_cons rfl (v C.toCt S 4) (da_cons rfl (v C.toCt S 7) (da_cons rfl (v C.toCt S 8) (da_nil))))) (dk_nil)) (da_cons rfl (de_tup (da_cons rfl (v C.toCt S 5) (da_cons rfl (de_ix (v C.toCt S 1) (de_int) rfl) (da_nil)))) (da_nil))) (by decide +kernel) (by decide +kernel) rfl) (dss_cons (s_for C (i_rng1 C.toCt S 8 (T.nb 3 (by decide)) (da_cons rfl (de_int) (da_nil))) (g_set C S 3) (dss_one (ds_if (dt_not (dt_tru rfl (e_dp C.toCt S 9 F__law_moves_right T.gd__law_moves_right (da_cons rfl (v C.toCt S 9) (da_cons rfl (v C.toCt S 10) (da_cons rfl (v C.toCt S 11) (da_cons rfl (v C.toCt S 12) (da_cons rfl (e_dp C.toCt S 0 F__law_thing T.gd__law_thing (da_cons rfl (v C.toCt S 0) (da_nil))) (da_nil))))))))) (dss_one (ds_ret (de_bl))) (dss_nil)))) (dss_one (ds_ret (e_dp C.toCt S 10 F__law_class_methods_right T.gd__law_class_methods_right (da_cons rfl (v C.toCt S 10) (da_cons rfl (v C.toCt S 6) (da_cons rfl (v C.toCt S 4) (da_nil))))))))))))))))))
theorem ok__law_rng (T : Txt K mg base cl) {fd : FuncData} (F : FunD K "_law_rng" "_law_rng" (defArgs st__law_rng) (defBody st__law_rng) (defScope st__law_rng) [] [] (He.ga K "_law_rng") fd) : Df P w K mg base cl 1 "_law_rng" "_law_rng" (st__law_rng) [] (He.ga K "_law_rng") ["_law_script", "_law_spot"] m__law_rng := by
  unfold m__law_rng
  exact
  fn_u (N := ["_law_script", "_law_spot", "_law_cell"]) (k := 0) (st := st__law_rng) F ⟨rfl, rfl, rfl, by decide +kernel, rfl, by decide +kernel, by decide +kernel⟩ (fun _ _ _ _ _ _ us h => match us, h with | [_, _], _ => rfl) fun cdv A outer s H E C =>
    have S := C.toCt.seen (U := [1, 0, 2]) (L := [2]) (G := ["len", "abs", "max", "int"]) (by decide +kernel)
    dss_cons (s_set C S 2 (de_if (dt_cmp o_ltI (v C.toCt S 1) (e_blt C.toCt S 0 c_len (T.nb 0 (by decide)) bt_len (da_cons rfl (v C.toCt S 0) (da_nil))) rfl) (e_blt C.toCt S 1 c_abs (T.nb 6 (by decide)) bt_abs (da_cons rfl (de_ix (v C.toCt S 0) (v C.toCt S 1) rfl) (da_nil))) (de_bin o_add (de_bin o_mul (de_int) (v C.toCt S 1)) (de_int)))) (dss_one (ds_ret (de_lstM (da_cons rfl (e_blt C.toCt S 2 (c_max2 C.toCt.calm) (T.nb 2 (by decide)) bt_max (da_cons rfl (de_int) (da_cons rfl (de_bin o_subI (v C.toCt S 2) (de_bin o_powI (de_int) (de_int))) (da_nil)))) (da_cons rfl (de_bin o_add (de_bin o_modI (e_bty C.toCt S 3 c_int (T.nb 5 (by decide)) bt_int (da_cons rfl (de_bin o_add (de_bin o_add (de_bin o_mul (de_bin o_modI (e_bty C.toCt S 3 c_int (T.nb 5 (by decide)) bt_int (da_cons rfl (v C.toCt S 2) (da_nil))) (de_int)) (de_int)) (de_bin o_mul (de_int) (v C.toCt S 1))) (de_int)) (da_nil))) (de_int)) (de_int)) (da_nil))))))
theorem ok_law (T : Txt K mg base cl) (F__law_right : Df P w K mg base cl 13 "_law_right" "_law_right" (st__law_right) [] (He.ga K "_law_right") ["_law_rng_here"] m__law_right) (F__law_rng : Df P w K mg base cl 1 "_law_rng" "_law_rng" (st__law_rng) [] (He.ga K "_law_rng") ["_law_script", "_law_spot"] m__law_rng) {fd : FuncData} (F : FunD K "law" "law" (defArgs st_law) (defBody st_law) (defScope st_law) [] [] (He.ga K "law") fd) : Df P w K mg base cl 14 "law" "law" (st_law) [] (He.ga K "law") ["_law_script"] m_law := by
  unfold m_law
  exact
  fn_u (N := ["_law_script", "_law_k"]) (k := 13) (st := st_law) F ⟨rfl, rfl, rfl, by decide +kernel, rfl, by decide +kernel, by decide +kernel⟩ (fun _ _ _ _ _ _ us h => match us, h with | [_], _ => rfl) fun cdv A outer s H E C =>
    have S := C.toCt.seen (U := [0]) (L := []) (G := ["all", "range", "max", "min", "len"]) (by decide +kernel)
    dss_one (ds_ret (e_blt C.toCt S 0 (c_all C.toCt.calm) (T.nb 12 (by decide)) bt_all (da_cons rfl (e_lc1 C.toCt 1 (blkOk_by (by decide +kernel)) (i_rng1 C.toCt S 1 (T.nb 3 (by decide)) (da_cons rfl (e_blt C.toCt S 2 (c_max2 C.toCt.calm) (T.nb 2 (by decide)) bt_max (da_cons rfl (de_int) (da_cons rfl (e_blt C.toCt S 3 (c_min2 C.toCt.calm) (T.nb 1 (by decide)) bt_min (da_cons rfl (de_int) (da_cons rfl (e_blt C.toCt S 4 c_len (T.nb 0 (by decide)) bt_len (da_cons rfl (v C.toCt S 0) (da_nil))) (da_nil)))) (da_nil)))) (da_nil))) (fun _ _ _ _ _ _ => dts_nil) (fun _ _ _ _ _ B1 => have T1 := B1.seen (U := [0, 1]) (L := []) (G := ["_law_right", "_law_rng"]) (by decide +kernel); e_dp B1 T1 0 F__law_right T.gd__law_right (da_cons rfl (e_dp B1 T1 1 F__law_rng T.gd__law_rng (da_cons rfl (v B1 T1 0) (da_cons rfl (v B1 T1 1) (da_nil)))) (da_nil)))) (da_nil))))
end
end K18

set_option Elab.async false
set_option linter.all false
set_option autoImplicit false
set_option maxRecDepth 100000
set_option maxHeartbeats 4000000
/-! k18: what the top has left -/
namespace K18
open PySem L2 DL
def cnames : List Str := ["Ratio", "Range", "Move"]
def clA (K : W.Frag) (n : Nat) : Addr := He.ga K (cnames.getD n "")
def gintB (K : W.Frag) (x : Str) (i : Int) : Bool := match W.nsIn K mainGlobals x with
  | some (some (.int j _)) => decide (j = i)
  | _ => false
theorem gintB_of {K : W.Frag} {h : Heap} {mg : Str → Option Value} {x : Str} {i : Int} (KX : K.In h) (G : h.Ns mainGlobals mg) (c : gintB K x i = true) : ∃ tk, mg x = some (.int i tk) := by
  unfold gintB at c
  split at c
  · rename_i j tk e
    obtain rfl : j = i := of_decide_eq_true c
    exact ⟨tk, W.mg_of KX G e⟩
  · cases c
theorem funD_inj {K : W.Frag} {x qual : Str} {params : Arguments} {body : List Stmt} {scope : Scope} {dvs : List V} {kws : List (Str × V)} {f : Addr} {fd fd' : FuncData} (h : FunD K x qual params body scope dvs kws f fd) (h' : FunD K x qual params body scope dvs kws f fd') : fd = fd' := by
  obtain ⟨_, _, _, _, _, _, _, _, _, _, _, l1, _⟩ := h.ex
  obtain ⟨_, _, _, _, _, _, _, _, _, _, _, l2, _⟩ := h'.ex
  rw [l1] at l2
  injection l2 with l2
  injection l2 with _ _ l2
  injection l2
def factsB (K : W.Frag) : Bool := (nbs.all fun x => decide (W.nsIn K mainGlobals x = some none)) && (decide (W.nsIn K mainGlobals "Ratio" = some (some (.ref (clA K 0)))) && (clsFB K (clA K 0) && (mkFB K (clA K 0) && (nfB K (clA K) 0 kds && (decide (PySem.W.findIn K (.ref (clA K 0)) "__ne__" = some (some (.builtin "object.__ne__"))) && (decide (PySem.W.mroIn K (clA K 0) (.type "object") = some true) && (decide (W.nsIn K mainGlobals "Range" = some (some (.ref (clA K 1)))) && (clsFB K (clA K 1) && (mkFB K (clA K 1) && (nfB K (clA K) 1 kds && (decide (PySem.W.findIn K (.ref (clA K 1)) "__ne__" = some (some (.builtin "object.__ne__"))) && (decide (PySem.W.mroIn K (clA K 1) (.type "object") = some true) && (decide (W.nsIn K mainGlobals "Move" = some (some (.ref (clA K 2)))) && (clsFB K (clA K 2) && (mkFB K (clA K 2) && (nfB K (clA K) 2 kds && (decide (PySem.W.findIn K (.ref (clA K 2)) "__ne__" = some (some (.builtin "object.__ne__"))) && (decide (PySem.W.mroIn K (clA K 2) (.type "object") = some true) && (creadFB K (clA K 2) && (creadFB K (clA K 0) && (decide (W.nsIn K mainGlobals "_law_draw" = some (some (.ref (He.ga K "_law_draw")))) && (decide (W.nsIn K mainGlobals "_law_plain" = some (some (.ref (He.ga K "_law_plain")))) && (decide (W.nsIn K mainGlobals "_law_choice" = some (some (.ref (He.ga K "_law_choice")))) && (decide (W.nsIn K mainGlobals "_law_fraction" = some (some (.ref (He.ga K "_law_fraction")))) && (decide (W.nsIn K mainGlobals "is_integer" = some (some (.ref (He.ga K "is_integer")))) && (decide (W.nsIn K mainGlobals "divisor_of" = some (some (.ref (He.ga K "divisor_of")))) && (decide (W.nsIn K mainGlobals "_law_thing" = some (some (.ref (He.ga K "_law_thing")))) && (decide (W.nsIn K mainGlobals "is_number" = some (some (.ref (He.ga K "is_number")))) && (decide (W.nsIn K mainGlobals "require_number" = some (some (.ref (He.ga K "require_number")))) && (decide (W.nsIn K mainGlobals "is_less" = some (some (.ref (He.ga K "is_less")))) && (decide (W.nsIn K mainGlobals "_law_ratios_right" = some (some (.ref (He.ga K "_law_ratios_right")))) && (decide (W.nsIn K mainGlobals "is_cut" = some (some (.ref (He.ga K "is_cut")))) && (decide (W.nsIn K mainGlobals "require_cut" = some (some (.ref (He.ga K "require_cut")))) && (decide (W.nsIn K mainGlobals "is_beyond" = some (some (.ref (He.ga K "is_beyond")))) && (decide (W.nsIn K mainGlobals "is_above" = some (some (.ref (He.ga K "is_above")))) && (decide (W.nsIn K mainGlobals "is_first" = some (some (.ref (He.ga K "is_first")))) && (decide (W.nsIn K mainGlobals "is_ahead" = some (some (.ref (He.ga K "is_ahead")))) && (decide (W.nsIn K mainGlobals "is_stretch" = some (some (.ref (He.ga K "is_stretch")))) && (decide (W.nsIn K mainGlobals "require_stretch" = some (some (.ref (He.ga K "require_stretch")))) && (decide (W.nsIn K mainGlobals "mark_of" = some (some (.ref (He.ga K "mark_of")))) && (decide (W.nsIn K mainGlobals "is_within" = some (some (.ref (He.ga K "is_within")))) && (decide (W.nsIn K mainGlobals "_law_cuts_right" = some (some (.ref (He.ga K "_law_cuts_right")))) && (decide (W.nsIn K mainGlobals "as_cut" = some (some (.ref (He.ga K "as_cut")))) && (decide (W.nsIn K mainGlobals "_law_ranges_right" = some (some (.ref (He.ga K "_law_ranges_right")))) && (decide (W.nsIn K mainGlobals "extreme_of" = some (some (.ref (He.ga K "extreme_of")))) && (decide (W.nsIn K mainGlobals "require_move" = some (some (.ref (He.ga K "require_move")))) && (decide (W.nsIn K mainGlobals "require_range" = some (some (.ref (He.ga K "require_range")))) && (decide (W.nsIn K mainGlobals "whole_above" = some (some (.ref (He.ga K "whole_above")))) && (decide (W.nsIn K mainGlobals "_law_moves_right" = some (some (.ref (He.ga K "_law_moves_right")))) && (decide (W.nsIn K mainGlobals "_law_class_methods_right" = some (some (.ref (He.ga K "_law_class_methods_right")))) && (decide (W.nsIn K mainGlobals "_law_right" = some (some (.ref (He.ga K "_law_right")))) && (decide (W.nsIn K mainGlobals "_law_rng" = some (some (.ref (He.ga K "_law_rng")))) && (decide (W.nsIn K mainGlobals "law" = some (some (.ref (He.ga K "law")))) && (methFB K (clA K 0) "__eq__" && (methFB K (clA K 1) "__eq__" && (methFB K (clA K 2) "__eq__" && (methFB K (clA K 0) "is_below" && (methFB K (clA K 0) "over" && (methFB K (clA K 0) "__str__" && (methFB K (clA K 0) "__add__" && (methFB K (clA K 1) "outer" && (methFB K (clA K 1) "is_inner" && (methFB K (clA K 1) "fit" && (methFB K (clA K 1) "has_stretch" && (methFB K (clA K 1) "__contains__" && (methFB K (clA K 2) "held" && (methFB K (clA K 2) "free" && (methFB K (clA K 2) "at" && (methFB K (clA K 0) "__mul__" && (methFB K (clA K 2) "then" && (methFB K (clA K 0) "__neg__" && (methFB K (clA K 0) "__sub__" && (methFB K (clA K 2) "back" && (methFB K (clA K 2) "form" && (methFB K (clA K 2) "upper_image" && (methFB K (clA K 2) "lower_image" && (methFB K (clA K 2) "upper_limit" && (methFB K (clA K 2) "lower_limit" && (methFB K (clA K 2) "is_alike" && (methFB K (clA K 2) "added" && (methFB K (clA K 2) "done" && (methFB K (clA K 2) "counted" && (methFB K (clA K 2) "tends" && (propFB K (clA K 0) "top" && (propFB K (clA K 0) "bottom" && (propFB K (clA K 0) "sign" && (propFB K (clA K 1) "low" && (propFB K (clA K 2) "low" && (propFB K (clA K 1) "high" && (propFB K (clA K 2) "high" && (propFB K (clA K 2) "divisor" && (propFB K (clA K 2) "plus" && (cmetFB K (clA K 0) "of" && (cmetFB K (clA K 0) "least" && (cmetFB K (clA K 0) "greatest" && (cmetFB K (clA K 2) "setting" && (cmetFB K (clA K 2) "staying" && (cmetFB K (clA K 2) "adding" && (cmetFB K (clA K 2) "dividing" && (([0].all fun n => clsFB K (clA K n) && naFB K (clA K n) "own_top") && (([0].all fun n => clsFB K (clA K n) && naFB K (clA K n) "own_bottom") && (([1, 2].all fun n => clsFB K (clA K n) && naFB K (clA K n) "own_low") && (([1, 2].all fun n => clsFB K (clA K n) && naFB K (clA K n) "own_high") && (([2].all fun n => clsFB K (clA K n) && naFB K (clA K n) "own_divisor") && (([2].all fun n => clsFB K (clA K n) && naFB K (clA K n) "own_plus") && (gintB K "MOST_TIMES" 100 && (kindB K (clA K) [0, 1, 2] && (tabKB K (clA K) tabk && (binB K (clA K 0) .Add ["int"] && (binB K (clA K 0) .Sub ["int"] && (binB K (clA K 0) .Mult ["int"] && true)))))))))))))))))))))))))))))))))))))))))))))))))))))))))))))))))))))))))))))))))))))))))))))))))))))))))))))))
def fn : List He5.DefA := ⟨fun K => He.ga K "_law_draw", "_law_draw", "_law_draw", defArgs st__law_draw, defBody st__law_draw, defScope st__law_draw, [], []⟩ :: ⟨fun K => He.ga K "_law_plain", "_law_plain", "_law_plain", defArgs st__law_plain, defBody st__law_plain, defScope st__law_plain, [], []⟩ :: ⟨fun K => He.ga K "_law_choice", "_law_choice", "_law_choice", defArgs st__law_choice, defBody st__law_choice, defScope st__law_choice, [], []⟩ :: ⟨fun K => He.ga K "_law_fraction", "_law_fraction", "_law_fraction", defArgs st__law_fraction, defBody st__law_fraction, defScope st__law_fraction, [], []⟩ :: ⟨fun K => He.ga K "is_integer", "is_integer", "is_integer", defArgs st_is_integer, defBody st_is_integer, defScope st_is_integer, [], []⟩ :: ⟨fun K => He.ga K "divisor_of", "divisor_of", "divisor_of", defArgs st_divisor_of, defBody st_divisor_of, defScope st_divisor_of, [], []⟩ :: ⟨fun K => He.ma K (He.ga K "Ratio") "__init__", "__init__", "Ratio.__init__", defArgs st_Ratio___init__, defBody st_Ratio___init__, defScope st_Ratio___init__, [.int 1], []⟩ :: ⟨fun K => He.ga K "_law_thing", "_law_thing", "_law_thing", defArgs st__law_thing, defBody st__law_thing, defScope st__law_thing, [], []⟩ :: ⟨fun K => He.ma K (He.ga K "Ratio") "__eq__", "__eq__", "Ratio.__eq__", defArgs st_Ratio___eq__, defBody st_Ratio___eq__, defScope st_Ratio___eq__, [], []⟩ :: ⟨fun K => He.ma K (He.ga K "Range") "__eq__", "__eq__", "Range.__eq__", defArgs st_Range___eq__, defBody st_Range___eq__, defScope st_Range___eq__, [], []⟩ :: ⟨fun K => He.ma K (He.ga K "Move") "__eq__", "__eq__", "Move.__eq__", defArgs st_Move___eq__, defBody st_Move___eq__, defScope st_Move___eq__, [], []⟩ :: ⟨fun K => He.ga K "is_number", "is_number", "is_number", defArgs st_is_number, defBody st_is_number, defScope st_is_number, [], []⟩ :: ⟨fun K => He.ga K "require_number", "require_number", "require_number", defArgs st_require_number, defBody st_require_number, defScope st_require_number, [], []⟩ :: ⟨fun K => He5.wf K (He.ga K "Ratio") "classmethod" "of", "of", "Ratio.of", defArgs st_Ratio_of, defBody st_Ratio_of, defScope st_Ratio_of, [], []⟩ :: ⟨fun K => He5.wf K (He.ga K "Ratio") "property" "top", "top", "Ratio.top", defArgs st_Ratio_top, defBody st_Ratio_top, defScope st_Ratio_top, [], []⟩ :: ⟨fun K => He5.wf K (He.ga K "Ratio") "property" "bottom", "bottom", "Ratio.bottom", defArgs st_Ratio_bottom, defBody st_Ratio_bottom, defScope st_Ratio_bottom, [], []⟩ :: ⟨fun K => He.ga K "is_less", "is_less", "is_less", defArgs st_is_less, defBody st_is_less, defScope st_is_less, [], []⟩ :: ⟨fun K => He.ma K (He.ga K "Ratio") "is_below", "is_below", "Ratio.is_below", defArgs st_Ratio_is_below, defBody st_Ratio_is_below, defScope st_Ratio_is_below, [], []⟩ :: ⟨fun K => He5.wf K (He.ga K "Ratio") "property" "sign", "sign", "Ratio.sign", defArgs st_Ratio_sign, defBody st_Ratio_sign, defScope st_Ratio_sign, [], []⟩ :: ⟨fun K => He.ma K (He.ga K "Ratio") "over", "over", "Ratio.over", defArgs st_Ratio_over, defBody st_Ratio_over, defScope st_Ratio_over, [], []⟩ :: ⟨fun K => He.ma K (He.ga K "Ratio") "__str__", "__str__", "Ratio.__str__", defArgs st_Ratio___str__, defBody st_Ratio___str__, defScope st_Ratio___str__, [], []⟩ :: ⟨fun K => He.ga K "_law_ratios_right", "_law_ratios_right", "_law_ratios_right", defArgs st__law_ratios_right, defBody st__law_ratios_right, defScope st__law_ratios_right, [], []⟩ :: ⟨fun K => He.ga K "is_cut", "is_cut", "is_cut", defArgs st_is_cut, defBody st_is_cut, defScope st_is_cut, [], []⟩ :: ⟨fun K => He.ga K "require_cut", "require_cut", "require_cut", defArgs st_require_cut, defBody st_require_cut, defScope st_require_cut, [], []⟩ :: ⟨fun K => He.ga K "is_beyond", "is_beyond", "is_beyond", defArgs st_is_beyond, defBody st_is_beyond, defScope st_is_beyond, [], []⟩ :: ⟨fun K => He.ga K "is_above", "is_above", "is_above", defArgs st_is_above, defBody st_is_above, defScope st_is_above, [], []⟩ :: ⟨fun K => He.ga K "is_first", "is_first", "is_first", defArgs st_is_first, defBody st_is_first, defScope st_is_first, [], []⟩ :: ⟨fun K => He.ga K "is_ahead", "is_ahead", "is_ahead", defArgs st_is_ahead, defBody st_is_ahead, defScope st_is_ahead, [], []⟩ :: ⟨fun K => He.ga K "is_stretch", "is_stretch", "is_stretch", defArgs st_is_stretch, defBody st_is_stretch, defScope st_is_stretch, [], []⟩ :: ⟨fun K => He.ga K "require_stretch", "require_stretch", "require_stretch", defArgs st_require_stretch, defBody st_require_stretch, defScope st_require_stretch, [], []⟩ :: ⟨fun K => He.ma K (He.ga K "Ratio") "__add__", "__add__", "Ratio.__add__", defArgs st_Ratio___add__, defBody st_Ratio___add__, defScope st_Ratio___add__, [], []⟩ :: ⟨fun K => He.ga K "mark_of", "mark_of", "mark_of", defArgs st_mark_of, defBody st_mark_of, defScope st_mark_of, [], []⟩ :: ⟨fun K => He.ga K "is_within", "is_within", "is_within", defArgs st_is_within, defBody st_is_within, defScope st_is_within, [], []⟩ :: ⟨fun K => He.ga K "_law_cuts_right", "_law_cuts_right", "_law_cuts_right", defArgs st__law_cuts_right, defBody st__law_cuts_right, defScope st__law_cuts_right, [], []⟩ :: ⟨fun K => He.ma K (He.ga K "Range") "__init__", "__init__", "Range.__init__", defArgs st_Range___init__, defBody st_Range___init__, defScope st_Range___init__, [], []⟩ :: ⟨fun K => He.ma K (He.ga K "Range") "outer", "outer", "Range.outer", defArgs st_Range_outer, defBody st_Range_outer, defScope st_Range_outer, [], []⟩ :: ⟨fun K => He.ma K (He.ga K "Range") "is_inner", "is_inner", "Range.is_inner", defArgs st_Range_is_inner, defBody st_Range_is_inner, defScope st_Range_is_inner, [], []⟩ :: ⟨fun K => He.ga K "as_cut", "as_cut", "as_cut", defArgs st_as_cut, defBody st_as_cut, defScope st_as_cut, [], []⟩ :: ⟨fun K => He.ma K (He.ga K "Range") "fit", "fit", "Range.fit", defArgs st_Range_fit, defBody st_Range_fit, defScope st_Range_fit, [], []⟩ :: ⟨fun K => He.ma K (He.ga K "Range") "has_stretch", "has_stretch", "Range.has_stretch", defArgs st_Range_has_stretch, defBody st_Range_has_stretch, defScope st_Range_has_stretch, [], []⟩ :: ⟨fun K => He5.wf K (He.ga K "Range") "property" "low", "low", "Range.low", defArgs st_Range_low, defBody st_Range_low, defScope st_Range_low, [], []⟩ :: ⟨fun K => He5.wf K (He.ga K "Move") "property" "low", "low", "Move.low", defArgs st_Move_low, defBody st_Move_low, defScope st_Move_low, [], []⟩ :: ⟨fun K => He5.wf K (He.ga K "Range") "property" "high", "high", "Range.high", defArgs st_Range_high, defBody st_Range_high, defScope st_Range_high, [], []⟩ :: ⟨fun K => He5.wf K (He.ga K "Move") "property" "high", "high", "Move.high", defArgs st_Move_high, defBody st_Move_high, defScope st_Move_high, [], []⟩ :: ⟨fun K => He.ma K (He.ga K "Range") "__contains__", "__contains__", "Range.__contains__", defArgs st_Range___contains__, defBody st_Range___contains__, defScope st_Range___contains__, [], []⟩ :: ⟨fun K => He.ga K "_law_ranges_right", "_law_ranges_right", "_law_ranges_right", defArgs st__law_ranges_right, defBody st__law_ranges_right, defScope st__law_ranges_right, [], []⟩ :: ⟨fun K => He.ma K (He.ga K "Move") "__init__", "__init__", "Move.__init__", defArgs st_Move___init__, defBody st_Move___init__, defScope st_Move___init__, [], []⟩ :: ⟨fun K => He5.wf K (He.ga K "Move") "property" "divisor", "divisor", "Move.divisor", defArgs st_Move_divisor, defBody st_Move_divisor, defScope st_Move_divisor, [], []⟩ :: ⟨fun K => He5.wf K (He.ga K "Move") "property" "plus", "plus", "Move.plus", defArgs st_Move_plus, defBody st_Move_plus, defScope st_Move_plus, [], []⟩ :: ⟨fun K => He.ga K "extreme_of", "extreme_of", "extreme_of", defArgs st_extreme_of, defBody st_extreme_of, defScope st_extreme_of, [], []⟩ :: ⟨fun K => He5.wf K (He.ga K "Ratio") "classmethod" "least", "least", "Ratio.least", defArgs st_Ratio_least, defBody st_Ratio_least, defScope st_Ratio_least, [], []⟩ :: ⟨fun K => He5.wf K (He.ga K "Ratio") "classmethod" "greatest", "greatest", "Ratio.greatest", defArgs st_Ratio_greatest, defBody st_Ratio_greatest, defScope st_Ratio_greatest, [], []⟩ :: ⟨fun K => He.ma K (He.ga K "Move") "held", "held", "Move.held", defArgs st_Move_held, defBody st_Move_held, defScope st_Move_held, [], []⟩ :: ⟨fun K => He.ma K (He.ga K "Move") "free", "free", "Move.free", defArgs st_Move_free, defBody st_Move_free, defScope st_Move_free, [], []⟩ :: ⟨fun K => He.ma K (He.ga K "Move") "at", "at", "Move.at", defArgs st_Move_at, defBody st_Move_at, defScope st_Move_at, [], []⟩ :: ⟨fun K => He.ga K "require_move", "require_move", "require_move", defArgs st_require_move, defBody st_require_move, defScope st_require_move, [], []⟩ :: ⟨fun K => He.ma K (He.ga K "Ratio") "__mul__", "__mul__", "Ratio.__mul__", defArgs st_Ratio___mul__, defBody st_Ratio___mul__, defScope st_Ratio___mul__, [], []⟩ :: ⟨fun K => He.ma K (He.ga K "Move") "then", "then", "Move.then", defArgs st_Move_then, defBody st_Move_then, defScope st_Move_then, [], []⟩ :: ⟨fun K => He.ga K "require_range", "require_range", "require_range", defArgs st_require_range, defBody st_require_range, defScope st_require_range, [], []⟩ :: ⟨fun K => He.ma K (He.ga K "Ratio") "__neg__", "__neg__", "Ratio.__neg__", defArgs st_Ratio___neg__, defBody st_Ratio___neg__, defScope st_Ratio___neg__, [], []⟩ :: ⟨fun K => He.ma K (He.ga K "Ratio") "__sub__", "__sub__", "Ratio.__sub__", defArgs st_Ratio___sub__, defBody st_Ratio___sub__, defScope st_Ratio___sub__, [], []⟩ :: ⟨fun K => He.ma K (He.ga K "Move") "back", "back", "Move.back", defArgs st_Move_back, defBody st_Move_back, defScope st_Move_back, [], []⟩ :: ⟨fun K => He.ma K (He.ga K "Move") "form", "form", "Move.form", defArgs st_Move_form, defBody st_Move_form, defScope st_Move_form, [], []⟩ :: ⟨fun K => He.ma K (He.ga K "Move") "upper_image", "upper_image", "Move.upper_image", defArgs st_Move_upper_image, defBody st_Move_upper_image, defScope st_Move_upper_image, [], []⟩ :: ⟨fun K => He.ma K (He.ga K "Move") "lower_image", "lower_image", "Move.lower_image", defArgs st_Move_lower_image, defBody st_Move_lower_image, defScope st_Move_lower_image, [], []⟩ :: ⟨fun K => He.ma K (He.ga K "Move") "upper_limit", "upper_limit", "Move.upper_limit", defArgs st_Move_upper_limit, defBody st_Move_upper_limit, defScope st_Move_upper_limit, [], []⟩ :: ⟨fun K => He.ma K (He.ga K "Move") "lower_limit", "lower_limit", "Move.lower_limit", defArgs st_Move_lower_limit, defBody st_Move_lower_limit, defScope st_Move_lower_limit, [], []⟩ :: ⟨fun K => He.ma K (He.ga K "Move") "is_alike", "is_alike", "Move.is_alike", defArgs st_Move_is_alike, defBody st_Move_is_alike, defScope st_Move_is_alike, [], []⟩ :: ⟨fun K => He.ma K (He.ga K "Move") "added", "added", "Move.added", defArgs st_Move_added, defBody st_Move_added, defScope st_Move_added, [], []⟩ :: ⟨fun K => He.ma K (He.ga K "Move") "done", "done", "Move.done", defArgs st_Move_done, defBody st_Move_done, defScope st_Move_done, [], []⟩ :: ⟨fun K => He.ga K "whole_above", "whole_above", "whole_above", defArgs st_whole_above, defBody st_whole_above, defScope st_whole_above, [], []⟩ :: ⟨fun K => He.ma K (He.ga K "Move") "counted", "counted", "Move.counted", defArgs st_Move_counted, defBody st_Move_counted, defScope st_Move_counted, [], []⟩ :: ⟨fun K => He.ma K (He.ga K "Move") "tends", "tends", "Move.tends", defArgs st_Move_tends, defBody st_Move_tends, defScope st_Move_tends, [], []⟩ :: ⟨fun K => He.ga K "_law_moves_right", "_law_moves_right", "_law_moves_right", defArgs st__law_moves_right, defBody st__law_moves_right, defScope st__law_moves_right, [], []⟩ :: ⟨fun K => He5.wf K (He.ga K "Move") "classmethod" "setting", "setting", "Move.setting", defArgs st_Move_setting, defBody st_Move_setting, defScope st_Move_setting, [], []⟩ :: ⟨fun K => He5.wf K (He.ga K "Move") "classmethod" "staying", "staying", "Move.staying", defArgs st_Move_staying, defBody st_Move_staying, defScope st_Move_staying, [], []⟩ :: ⟨fun K => He5.wf K (He.ga K "Move") "classmethod" "adding", "adding", "Move.adding", defArgs st_Move_adding, defBody st_Move_adding, defScope st_Move_adding, [], []⟩ :: ⟨fun K => He5.wf K (He.ga K "Move") "classmethod" "dividing", "dividing", "Move.dividing", defArgs st_Move_dividing, defBody st_Move_dividing, defScope st_Move_dividing, [], []⟩ :: ⟨fun K => He.ga K "_law_class_methods_right", "_law_class_methods_right", "_law_class_methods_right", defArgs st__law_class_methods_right, defBody st__law_class_methods_right, defScope st__law_class_methods_right, [], []⟩ :: ⟨fun K => He.ga K "_law_right", "_law_right", "_law_right", defArgs st__law_right, defBody st__law_right, defScope st__law_right, [], []⟩ :: ⟨fun K => He.ga K "_law_rng", "_law_rng", "_law_rng", defArgs st__law_rng, defBody st__law_rng, defScope st__law_rng, [], []⟩ :: ⟨fun K => He.ga K "law", "law", "law", defArgs st_law, defBody st_law, defScope st_law, [], []⟩ :: []
def asx : (Addr → Option Obj) → List Addr := addrX ["Ratio", "Range", "Move"] ("_law_draw" :: "_law_plain" :: "_law_choice" :: "_law_fraction" :: "is_integer" :: "divisor_of" :: "_law_thing" :: "is_number" :: "require_number" :: "is_less" :: "_law_ratios_right" :: "is_cut" :: "require_cut" :: "is_beyond" :: "is_above" :: "is_first" :: "is_ahead" :: "is_stretch" :: "require_stretch" :: "mark_of" :: "is_within" :: "_law_cuts_right" :: "as_cut" :: "_law_ranges_right" :: "extreme_of" :: "require_move" :: "require_range" :: "whole_above" :: "_law_moves_right" :: "_law_class_methods_right" :: "_law_right" :: "_law_rng" :: "law" :: []) (("Ratio", "__init__") :: ("Ratio", "__eq__") :: ("Range", "__eq__") :: ("Move", "__eq__") :: ("Ratio", "of") :: ("Ratio", "top") :: ("Ratio", "bottom") :: ("Ratio", "is_below") :: ("Ratio", "sign") :: ("Ratio", "over") :: ("Ratio", "__str__") :: ("Ratio", "__add__") :: ("Range", "__init__") :: ("Range", "outer") :: ("Range", "is_inner") :: ("Range", "fit") :: ("Range", "has_stretch") :: ("Range", "low") :: ("Move", "low") :: ("Range", "high") :: ("Move", "high") :: ("Range", "__contains__") :: ("Move", "__init__") :: ("Move", "divisor") :: ("Move", "plus") :: ("Ratio", "least") :: ("Ratio", "greatest") :: ("Move", "held") :: ("Move", "free") :: ("Move", "at") :: ("Ratio", "__mul__") :: ("Move", "then") :: ("Ratio", "__neg__") :: ("Ratio", "__sub__") :: ("Move", "back") :: ("Move", "form") :: ("Move", "upper_image") :: ("Move", "lower_image") :: ("Move", "upper_limit") :: ("Move", "lower_limit") :: ("Move", "is_alike") :: ("Move", "added") :: ("Move", "done") :: ("Move", "counted") :: ("Move", "tends") :: ("Move", "setting") :: ("Move", "staying") :: ("Move", "adding") :: ("Move", "dividing") :: []) (("Ratio", "classmethod", "of") :: ("Ratio", "property", "top") :: ("Ratio", "property", "bottom") :: ("Ratio", "property", "sign") :: ("Range", "property", "low") :: ("Move", "property", "low") :: ("Range", "property", "high") :: ("Move", "property", "high") :: ("Move", "property", "divisor") :: ("Move", "property", "plus") :: ("Ratio", "classmethod", "least") :: ("Ratio", "classmethod", "greatest") :: ("Move", "classmethod", "setting") :: ("Move", "classmethod", "staying") :: ("Move", "classmethod", "adding") :: ("Move", "classmethod", "dividing") :: [])
theorem mem_getD {α : Type} {l : List α} {i : Nat} {d : α} (h : i < l.length) : l.getD i d ∈ l := by
  rw [List.getD_eq_getElem?_getD, List.getElem?_eq_getElem h]
  exact List.getElem_mem h
theorem txt_of {K : W.Frag} {h base : Heap} {mg : Str → Option Value} (KX : K.In h) (G : h.Ns mainGlobals mg) (c : factsB K = true) : Txt K mg base (clA K) := by
  obtain ⟨h0, c⟩ := and2 c
  rw [List.all_eq_true] at h0
  obtain ⟨h_gc_Ratio, c⟩ := and2 c
  obtain ⟨h_cl_Ratio, c⟩ := and2 c
  obtain ⟨h_mk_Ratio, c⟩ := and2 c
  obtain ⟨h_nf_Ratio, c⟩ := and2 c
  obtain ⟨h_ne_Ratio, c⟩ := and2 c
  obtain ⟨h_mo_Ratio, c⟩ := and2 c
  obtain ⟨h_gc_Range, c⟩ := and2 c
  obtain ⟨h_cl_Range, c⟩ := and2 c
  obtain ⟨h_mk_Range, c⟩ := and2 c
  obtain ⟨h_nf_Range, c⟩ := and2 c
  obtain ⟨h_ne_Range, c⟩ := and2 c
  obtain ⟨h_mo_Range, c⟩ := and2 c
  obtain ⟨h_gc_Move, c⟩ := and2 c
  obtain ⟨h_cl_Move, c⟩ := and2 c
  obtain ⟨h_mk_Move, c⟩ := and2 c
  obtain ⟨h_nf_Move, c⟩ := and2 c
  obtain ⟨h_ne_Move, c⟩ := and2 c
  obtain ⟨h_mo_Move, c⟩ := and2 c
  obtain ⟨h_cr_Move, c⟩ := and2 c
  obtain ⟨h_cr_Ratio, c⟩ := and2 c
  obtain ⟨h_gd__law_draw, c⟩ := and2 c
  obtain ⟨h_gd__law_plain, c⟩ := and2 c
  obtain ⟨h_gd__law_choice, c⟩ := and2 c
  obtain ⟨h_gd__law_fraction, c⟩ := and2 c
  obtain ⟨h_gd_is_integer, c⟩ := and2 c
  obtain ⟨h_gd_divisor_of, c⟩ := and2 c
  obtain ⟨h_gd__law_thing, c⟩ := and2 c
  obtain ⟨h_gd_is_number, c⟩ := and2 c
  obtain ⟨h_gd_require_number, c⟩ := and2 c
  obtain ⟨h_gd_is_less, c⟩ := and2 c
  obtain ⟨h_gd__law_ratios_right, c⟩ := and2 c
  obtain ⟨h_gd_is_cut, c⟩ := and2 c
  obtain ⟨h_gd_require_cut, c⟩ := and2 c
  obtain ⟨h_gd_is_beyond, c⟩ := and2 c
  obtain ⟨h_gd_is_above, c⟩ := and2 c
  obtain ⟨h_gd_is_first, c⟩ := and2 c
  obtain ⟨h_gd_is_ahead, c⟩ := and2 c
  obtain ⟨h_gd_is_stretch, c⟩ := and2 c
  obtain ⟨h_gd_require_stretch, c⟩ := and2 c
  obtain ⟨h_gd_mark_of, c⟩ := and2 c
  obtain ⟨h_gd_is_within, c⟩ := and2 c
  obtain ⟨h_gd__law_cuts_right, c⟩ := and2 c
  obtain ⟨h_gd_as_cut, c⟩ := and2 c
  obtain ⟨h_gd__law_ranges_right, c⟩ := and2 c
  obtain ⟨h_gd_extreme_of, c⟩ := and2 c
  obtain ⟨h_gd_require_move, c⟩ := and2 c
  obtain ⟨h_gd_require_range, c⟩ := and2 c
  obtain ⟨h_gd_whole_above, c⟩ := and2 c
  obtain ⟨h_gd__law_moves_right, c⟩ := and2 c
  obtain ⟨h_gd__law_class_methods_right, c⟩ := and2 c
  obtain ⟨h_gd__law_right, c⟩ := and2 c
  obtain ⟨h_gd__law_rng, c⟩ := and2 c
  obtain ⟨h_gd_law, c⟩ := and2 c
  obtain ⟨h_me_Ratio___eq__, c⟩ := and2 c
  obtain ⟨h_me_Range___eq__, c⟩ := and2 c
  obtain ⟨h_me_Move___eq__, c⟩ := and2 c
  obtain ⟨h_me_Ratio_is_below, c⟩ := and2 c
  obtain ⟨h_me_Ratio_over, c⟩ := and2 c
  obtain ⟨h_me_Ratio___str__, c⟩ := and2 c
  obtain ⟨h_me_Ratio___add__, c⟩ := and2 c
  obtain ⟨h_me_Range_outer, c⟩ := and2 c
  obtain ⟨h_me_Range_is_inner, c⟩ := and2 c
  obtain ⟨h_me_Range_fit, c⟩ := and2 c
  obtain ⟨h_me_Range_has_stretch, c⟩ := and2 c
  obtain ⟨h_me_Range___contains__, c⟩ := and2 c
  obtain ⟨h_me_Move_held, c⟩ := and2 c
  obtain ⟨h_me_Move_free, c⟩ := and2 c
  obtain ⟨h_me_Move_at, c⟩ := and2 c
  obtain ⟨h_me_Ratio___mul__, c⟩ := and2 c
  obtain ⟨h_me_Move_then, c⟩ := and2 c
  obtain ⟨h_me_Ratio___neg__, c⟩ := and2 c
  obtain ⟨h_me_Ratio___sub__, c⟩ := and2 c
  obtain ⟨h_me_Move_back, c⟩ := and2 c
  obtain ⟨h_me_Move_form, c⟩ := and2 c
  obtain ⟨h_me_Move_upper_image, c⟩ := and2 c
  obtain ⟨h_me_Move_lower_image, c⟩ := and2 c
  obtain ⟨h_me_Move_upper_limit, c⟩ := and2 c
  obtain ⟨h_me_Move_lower_limit, c⟩ := and2 c
  obtain ⟨h_me_Move_is_alike, c⟩ := and2 c
  obtain ⟨h_me_Move_added, c⟩ := and2 c
  obtain ⟨h_me_Move_done, c⟩ := and2 c
  obtain ⟨h_me_Move_counted, c⟩ := and2 c
  obtain ⟨h_me_Move_tends, c⟩ := and2 c
  obtain ⟨h_pr_Ratio_top, c⟩ := and2 c
  obtain ⟨h_pr_Ratio_bottom, c⟩ := and2 c
  obtain ⟨h_pr_Ratio_sign, c⟩ := and2 c
  obtain ⟨h_pr_Range_low, c⟩ := and2 c
  obtain ⟨h_pr_Move_low, c⟩ := and2 c
  obtain ⟨h_pr_Range_high, c⟩ := and2 c
  obtain ⟨h_pr_Move_high, c⟩ := and2 c
  obtain ⟨h_pr_Move_divisor, c⟩ := and2 c
  obtain ⟨h_pr_Move_plus, c⟩ := and2 c
  obtain ⟨h_cm_Ratio_of, c⟩ := and2 c
  obtain ⟨h_cm_Ratio_least, c⟩ := and2 c
  obtain ⟨h_cm_Ratio_greatest, c⟩ := and2 c
  obtain ⟨h_cm_Move_setting, c⟩ := and2 c
  obtain ⟨h_cm_Move_staying, c⟩ := and2 c
  obtain ⟨h_cm_Move_adding, c⟩ := and2 c
  obtain ⟨h_cm_Move_dividing, c⟩ := and2 c
  obtain ⟨h_fl_own_top, c⟩ := and2 c
  obtain ⟨h_fl_own_bottom, c⟩ := and2 c
  obtain ⟨h_fl_own_low, c⟩ := and2 c
  obtain ⟨h_fl_own_high, c⟩ := and2 c
  obtain ⟨h_fl_own_divisor, c⟩ := and2 c
  obtain ⟨h_fl_own_plus, c⟩ := and2 c
  obtain ⟨h_k_MOST_TIMES, c⟩ := and2 c
  obtain ⟨h_KF, c⟩ := and2 c
  obtain ⟨h_TK, c⟩ := and2 c
  obtain ⟨h_bf_Add, c⟩ := and2 c
  obtain ⟨h_bf_Sub, c⟩ := and2 c
  obtain ⟨h_bf_Mult, c⟩ := and2 c
  exact {
    nb := fun i hi => W.mg_none_of KX G (of_decide_eq_true (h0 _ (mem_getD hi))),
    gc_Ratio := W.mg_of KX G (of_decide_eq_true h_gc_Ratio),
    cl_Ratio := clsFB_of h_cl_Ratio,
    mk_Ratio := mkFB_of h_mk_Ratio,
    nf_Ratio := nfB_of h_nf_Ratio,
    ne_Ratio := of_decide_eq_true h_ne_Ratio,
    mo_Ratio := of_decide_eq_true h_mo_Ratio,
    gc_Range := W.mg_of KX G (of_decide_eq_true h_gc_Range),
    cl_Range := clsFB_of h_cl_Range,
    mk_Range := mkFB_of h_mk_Range,
    nf_Range := nfB_of h_nf_Range,
    ne_Range := of_decide_eq_true h_ne_Range,
    mo_Range := of_decide_eq_true h_mo_Range,
    gc_Move := W.mg_of KX G (of_decide_eq_true h_gc_Move),
    cl_Move := clsFB_of h_cl_Move,
    mk_Move := mkFB_of h_mk_Move,
    nf_Move := nfB_of h_nf_Move,
    ne_Move := of_decide_eq_true h_ne_Move,
    mo_Move := of_decide_eq_true h_mo_Move,
    cr_Move := creadFB_of h_cr_Move,
    cr_Ratio := creadFB_of h_cr_Ratio,
    gd__law_draw := W.mg_of KX G (of_decide_eq_true h_gd__law_draw),
    gd__law_plain := W.mg_of KX G (of_decide_eq_true h_gd__law_plain),
    gd__law_choice := W.mg_of KX G (of_decide_eq_true h_gd__law_choice),
    gd__law_fraction := W.mg_of KX G (of_decide_eq_true h_gd__law_fraction),
    gd_is_integer := W.mg_of KX G (of_decide_eq_true h_gd_is_integer),
    gd_divisor_of := W.mg_of KX G (of_decide_eq_true h_gd_divisor_of),
    gd__law_thing := W.mg_of KX G (of_decide_eq_true h_gd__law_thing),
    gd_is_number := W.mg_of KX G (of_decide_eq_true h_gd_is_number),
    gd_require_number := W.mg_of KX G (of_decide_eq_true h_gd_require_number),
    gd_is_less := W.mg_of KX G (of_decide_eq_true h_gd_is_less),
    gd__law_ratios_right := W.mg_of KX G (of_decide_eq_true h_gd__law_ratios_right),
    gd_is_cut := W.mg_of KX G (of_decide_eq_true h_gd_is_cut),
    gd_require_cut := W.mg_of KX G (of_decide_eq_true h_gd_require_cut),
    gd_is_beyond := W.mg_of KX G (of_decide_eq_true h_gd_is_beyond),
    gd_is_above := W.mg_of KX G (of_decide_eq_true h_gd_is_above),
    gd_is_first := W.mg_of KX G (of_decide_eq_true h_gd_is_first),
    gd_is_ahead := W.mg_of KX G (of_decide_eq_true h_gd_is_ahead),
    gd_is_stretch := W.mg_of KX G (of_decide_eq_true h_gd_is_stretch),
    gd_require_stretch := W.mg_of KX G (of_decide_eq_true h_gd_require_stretch),
    gd_mark_of := W.mg_of KX G (of_decide_eq_true h_gd_mark_of),
    gd_is_within := W.mg_of KX G (of_decide_eq_true h_gd_is_within),
    gd__law_cuts_right := W.mg_of KX G (of_decide_eq_true h_gd__law_cuts_right),
    gd_as_cut := W.mg_of KX G (of_decide_eq_true h_gd_as_cut),
    gd__law_ranges_right := W.mg_of KX G (of_decide_eq_true h_gd__law_ranges_right),
    gd_extreme_of := W.mg_of KX G (of_decide_eq_true h_gd_extreme_of),
    gd_require_move := W.mg_of KX G (of_decide_eq_true h_gd_require_move),
    gd_require_range := W.mg_of KX G (of_decide_eq_true h_gd_require_range),
    gd_whole_above := W.mg_of KX G (of_decide_eq_true h_gd_whole_above),
    gd__law_moves_right := W.mg_of KX G (of_decide_eq_true h_gd__law_moves_right),
    gd__law_class_methods_right := W.mg_of KX G (of_decide_eq_true h_gd__law_class_methods_right),
    gd__law_right := W.mg_of KX G (of_decide_eq_true h_gd__law_right),
    gd__law_rng := W.mg_of KX G (of_decide_eq_true h_gd__law_rng),
    gd_law := W.mg_of KX G (of_decide_eq_true h_gd_law),
    me_Ratio___eq__ := methFB_of h_me_Ratio___eq__,
    me_Range___eq__ := methFB_of h_me_Range___eq__,
    me_Move___eq__ := methFB_of h_me_Move___eq__,
    me_Ratio_is_below := methFB_of h_me_Ratio_is_below,
    me_Ratio_over := methFB_of h_me_Ratio_over,
    me_Ratio___str__ := methFB_of h_me_Ratio___str__,
    me_Ratio___add__ := methFB_of h_me_Ratio___add__,
    me_Range_outer := methFB_of h_me_Range_outer,
    me_Range_is_inner := methFB_of h_me_Range_is_inner,
    me_Range_fit := methFB_of h_me_Range_fit,
    me_Range_has_stretch := methFB_of h_me_Range_has_stretch,
    me_Range___contains__ := methFB_of h_me_Range___contains__,
    me_Move_held := methFB_of h_me_Move_held,
    me_Move_free := methFB_of h_me_Move_free,
    me_Move_at := methFB_of h_me_Move_at,
    me_Ratio___mul__ := methFB_of h_me_Ratio___mul__,
    me_Move_then := methFB_of h_me_Move_then,
    me_Ratio___neg__ := methFB_of h_me_Ratio___neg__,
    me_Ratio___sub__ := methFB_of h_me_Ratio___sub__,
    me_Move_back := methFB_of h_me_Move_back,
    me_Move_form := methFB_of h_me_Move_form,
    me_Move_upper_image := methFB_of h_me_Move_upper_image,
    me_Move_lower_image := methFB_of h_me_Move_lower_image,
    me_Move_upper_limit := methFB_of h_me_Move_upper_limit,
    me_Move_lower_limit := methFB_of h_me_Move_lower_limit,
    me_Move_is_alike := methFB_of h_me_Move_is_alike,
    me_Move_added := methFB_of h_me_Move_added,
    me_Move_done := methFB_of h_me_Move_done,
    me_Move_counted := methFB_of h_me_Move_counted,
    me_Move_tends := methFB_of h_me_Move_tends,
    pr_Ratio_top := propFB_of h_pr_Ratio_top,
    pr_Ratio_bottom := propFB_of h_pr_Ratio_bottom,
    pr_Ratio_sign := propFB_of h_pr_Ratio_sign,
    pr_Range_low := propFB_of h_pr_Range_low,
    pr_Move_low := propFB_of h_pr_Move_low,
    pr_Range_high := propFB_of h_pr_Range_high,
    pr_Move_high := propFB_of h_pr_Move_high,
    pr_Move_divisor := propFB_of h_pr_Move_divisor,
    pr_Move_plus := propFB_of h_pr_Move_plus,
    cm_Ratio_of := cmetFB_of h_cm_Ratio_of,
    cm_Ratio_least := cmetFB_of h_cm_Ratio_least,
    cm_Ratio_greatest := cmetFB_of h_cm_Ratio_greatest,
    cm_Move_setting := cmetFB_of h_cm_Move_setting,
    cm_Move_staying := cmetFB_of h_cm_Move_staying,
    cm_Move_adding := cmetFB_of h_cm_Move_adding,
    cm_Move_dividing := cmetFB_of h_cm_Move_dividing,
    fl_own_top := (fun n hn => ⟨clsFB_of (and2 (List.all_eq_true.mp h_fl_own_top n hn)).1, naFB_of (and2 (List.all_eq_true.mp h_fl_own_top n hn)).2⟩),
    fl_own_bottom := (fun n hn => ⟨clsFB_of (and2 (List.all_eq_true.mp h_fl_own_bottom n hn)).1, naFB_of (and2 (List.all_eq_true.mp h_fl_own_bottom n hn)).2⟩),
    fl_own_low := (fun n hn => ⟨clsFB_of (and2 (List.all_eq_true.mp h_fl_own_low n hn)).1, naFB_of (and2 (List.all_eq_true.mp h_fl_own_low n hn)).2⟩),
    fl_own_high := (fun n hn => ⟨clsFB_of (and2 (List.all_eq_true.mp h_fl_own_high n hn)).1, naFB_of (and2 (List.all_eq_true.mp h_fl_own_high n hn)).2⟩),
    fl_own_divisor := (fun n hn => ⟨clsFB_of (and2 (List.all_eq_true.mp h_fl_own_divisor n hn)).1, naFB_of (and2 (List.all_eq_true.mp h_fl_own_divisor n hn)).2⟩),
    fl_own_plus := (fun n hn => ⟨clsFB_of (and2 (List.all_eq_true.mp h_fl_own_plus n hn)).1, naFB_of (and2 (List.all_eq_true.mp h_fl_own_plus n hn)).2⟩),
    k_MOST_TIMES := gintB_of KX G h_k_MOST_TIMES,
    KF := kindB_of h_KF,
    TK := tabK_of h_TK,
    bf_Add := binB_of h_bf_Add,
    bf_Sub := binB_of h_bf_Sub,
    bf_Mult := binB_of h_bf_Mult }
theorem all_mk {P : Program} {w : World} {K : W.Frag} {mg : Str → Option Value} {h : Heap} {fa : Addr} (KX : K.In h) (G : h.Ns mainGlobals mg) (hfa : mg "law" = some (.ref fa)) (c : tellC factsB fn K = wantC fn) :
    ∃ (fd : FuncData) (cl : Nat → Addr), (∀ (s : Shared) (u : Value), BindsTo s fd ⟨[u], []⟩ [("_law_script", u)]) ∧ ∀ base : Heap, K.In base → base.Ns mainGlobals mg → (∃ o, base.get? sysModules = some o) → GnOk P w K mg base 14 fa fd ["_law_script"] (spM ⟨K, cl⟩ 1 m_law) := by
  have T0 := txt_of (base := h) KX G (told_c c)
  have e := hfa.symm.trans T0.gd_law
  cases e
  obtain ⟨fd0, l0⟩ := def_c c 0 rfl
  obtain ⟨fd1, l1⟩ := def_c c 1 rfl
  obtain ⟨fd2, l2⟩ := def_c c 2 rfl
  obtain ⟨fd3, l3⟩ := def_c c 3 rfl
  obtain ⟨fd4, l4⟩ := def_c c 4 rfl
  obtain ⟨fd5, l5⟩ := def_c c 5 rfl
  obtain ⟨fd6, l6⟩ := def_c c 6 rfl
  obtain ⟨fd7, l7⟩ := def_c c 7 rfl
  obtain ⟨fd8, l8⟩ := def_c c 8 rfl
  obtain ⟨fd9, l9⟩ := def_c c 9 rfl
  obtain ⟨fd10, l10⟩ := def_c c 10 rfl
  obtain ⟨fd11, l11⟩ := def_c c 11 rfl
  obtain ⟨fd12, l12⟩ := def_c c 12 rfl
  obtain ⟨fd13, l13⟩ := def_c c 13 rfl
  obtain ⟨fd14, l14⟩ := def_c c 14 rfl
  obtain ⟨fd15, l15⟩ := def_c c 15 rfl
  obtain ⟨fd16, l16⟩ := def_c c 16 rfl
  obtain ⟨fd17, l17⟩ := def_c c 17 rfl
  obtain ⟨fd18, l18⟩ := def_c c 18 rfl
  obtain ⟨fd19, l19⟩ := def_c c 19 rfl
  obtain ⟨fd20, l20⟩ := def_c c 20 rfl
  obtain ⟨fd21, l21⟩ := def_c c 21 rfl
  obtain ⟨fd22, l22⟩ := def_c c 22 rfl
  obtain ⟨fd23, l23⟩ := def_c c 23 rfl
  obtain ⟨fd24, l24⟩ := def_c c 24 rfl
  obtain ⟨fd25, l25⟩ := def_c c 25 rfl
  obtain ⟨fd26, l26⟩ := def_c c 26 rfl
  obtain ⟨fd27, l27⟩ := def_c c 27 rfl
  obtain ⟨fd28, l28⟩ := def_c c 28 rfl
  obtain ⟨fd29, l29⟩ := def_c c 29 rfl
  obtain ⟨fd30, l30⟩ := def_c c 30 rfl
  obtain ⟨fd31, l31⟩ := def_c c 31 rfl
  obtain ⟨fd32, l32⟩ := def_c c 32 rfl
  obtain ⟨fd33, l33⟩ := def_c c 33 rfl
  obtain ⟨fd34, l34⟩ := def_c c 34 rfl
  obtain ⟨fd35, l35⟩ := def_c c 35 rfl
  obtain ⟨fd36, l36⟩ := def_c c 36 rfl
  obtain ⟨fd37, l37⟩ := def_c c 37 rfl
  obtain ⟨fd38, l38⟩ := def_c c 38 rfl
  obtain ⟨fd39, l39⟩ := def_c c 39 rfl
  obtain ⟨fd40, l40⟩ := def_c c 40 rfl
  obtain ⟨fd41, l41⟩ := def_c c 41 rfl
  obtain ⟨fd42, l42⟩ := def_c c 42 rfl
  obtain ⟨fd43, l43⟩ := def_c c 43 rfl
  obtain ⟨fd44, l44⟩ := def_c c 44 rfl
  obtain ⟨fd45, l45⟩ := def_c c 45 rfl
  obtain ⟨fd46, l46⟩ := def_c c 46 rfl
  obtain ⟨fd47, l47⟩ := def_c c 47 rfl
  obtain ⟨fd48, l48⟩ := def_c c 48 rfl
  obtain ⟨fd49, l49⟩ := def_c c 49 rfl
  obtain ⟨fd50, l50⟩ := def_c c 50 rfl
  obtain ⟨fd51, l51⟩ := def_c c 51 rfl
  obtain ⟨fd52, l52⟩ := def_c c 52 rfl
  obtain ⟨fd53, l53⟩ := def_c c 53 rfl
  obtain ⟨fd54, l54⟩ := def_c c 54 rfl
  obtain ⟨fd55, l55⟩ := def_c c 55 rfl
  obtain ⟨fd56, l56⟩ := def_c c 56 rfl
  obtain ⟨fd57, l57⟩ := def_c c 57 rfl
  obtain ⟨fd58, l58⟩ := def_c c 58 rfl
  obtain ⟨fd59, l59⟩ := def_c c 59 rfl
  obtain ⟨fd60, l60⟩ := def_c c 60 rfl
  obtain ⟨fd61, l61⟩ := def_c c 61 rfl
  obtain ⟨fd62, l62⟩ := def_c c 62 rfl
  obtain ⟨fd63, l63⟩ := def_c c 63 rfl
  obtain ⟨fd64, l64⟩ := def_c c 64 rfl
  obtain ⟨fd65, l65⟩ := def_c c 65 rfl
  obtain ⟨fd66, l66⟩ := def_c c 66 rfl
  obtain ⟨fd67, l67⟩ := def_c c 67 rfl
  obtain ⟨fd68, l68⟩ := def_c c 68 rfl
  obtain ⟨fd69, l69⟩ := def_c c 69 rfl
  obtain ⟨fd70, l70⟩ := def_c c 70 rfl
  obtain ⟨fd71, l71⟩ := def_c c 71 rfl
  obtain ⟨fd72, l72⟩ := def_c c 72 rfl
  obtain ⟨fd73, l73⟩ := def_c c 73 rfl
  obtain ⟨fd74, l74⟩ := def_c c 74 rfl
  obtain ⟨fd75, l75⟩ := def_c c 75 rfl
  obtain ⟨fd76, l76⟩ := def_c c 76 rfl
  obtain ⟨fd77, l77⟩ := def_c c 77 rfl
  obtain ⟨fd78, l78⟩ := def_c c 78 rfl
  obtain ⟨fd79, l79⟩ := def_c c 79 rfl
  obtain ⟨fd80, l80⟩ := def_c c 80 rfl
  obtain ⟨fd81, l81⟩ := def_c c 81 rfl
  refine ⟨fd81, clA K, fun s u => l81.bindsA (ps := ["_law_script"]) (fun _ _ _ _ _ _ us h => match us, h with | [_], _ => rfl) s [u] rfl, fun base KB GB hS => ?_⟩
  have T := txt_of (base := base) KX G (told_c c)
  have F__law_draw := ok__law_draw (w := w) (P := P) T  l0
  have F__law_plain := ok__law_plain (w := w) (P := P) T  l1
  have F__law_choice := ok__law_choice (w := w) (P := P) T F__law_draw l2
  have F__law_fraction := ok__law_fraction (w := w) (P := P) T F__law_draw F__law_plain F__law_choice l3
  have F_is_integer := ok_is_integer (w := w) (P := P) T  l4
  have F_divisor_of := ok_divisor_of (w := w) (P := P) T  l5
  have F_Ratio___init__ := ok_Ratio___init__ (w := w) (P := P) T F_is_integer F_divisor_of l6
  have F__law_thing := ok__law_thing (w := w) (P := P) T F__law_fraction F_Ratio___init__ l7
  have F_Ratio___eq__ := ok_Ratio___eq__ (w := w) (P := P) T  l8
  have F_Range___eq__ := ok_Range___eq__ (w := w) (P := P) T F_Ratio___eq__ l9
  have F_Move___eq__ := ok_Move___eq__ (w := w) (P := P) T F_Ratio___eq__ l10
  have F_is_number := ok_is_number (w := w) (P := P) T F_is_integer l11
  have F_require_number := ok_require_number (w := w) (P := P) T F_is_number l12
  have F_Ratio_of := ok_Ratio_of (w := w) (P := P) T F_require_number F_is_integer F_Ratio___init__ l13
  have F_Ratio_top := ok_Ratio_top (w := w) (P := P) T  l14
  have F_Ratio_bottom := ok_Ratio_bottom (w := w) (P := P) T  l15
  have F_is_less := ok_is_less (w := w) (P := P) T F_Ratio_top F_Ratio_bottom l16
  have F_Ratio_is_below := ok_Ratio_is_below (w := w) (P := P) T F_is_less F_Ratio_of l17
  have F_Ratio_sign := ok_Ratio_sign (w := w) (P := P) T  l18
  have F_Ratio_over := ok_Ratio_over (w := w) (P := P) T F_Ratio_of F_Ratio___init__ l19
  have F_Ratio___str__ := ok_Ratio___str__ (w := w) (P := P) T  l20
  have F__law_ratios_right := ok__law_ratios_right (w := w) (P := P) T F_Ratio___init__ F_Ratio___eq__ F_Ratio_of F_is_number F_Ratio_is_below F_Ratio_sign F_Ratio_over F_Ratio___str__ l21
  have F_is_cut := ok_is_cut (w := w) (P := P) T F_is_number l22
  have F_require_cut := ok_require_cut (w := w) (P := P) T F_is_cut l23
  have F_is_beyond := ok_is_beyond (w := w) (P := P) T F_Ratio_of F_is_less F_Ratio___eq__ l24
  have F_is_above := ok_is_above (w := w) (P := P) T F_require_number F_require_cut F_is_beyond l25
  have F_is_first := ok_is_first (w := w) (P := P) T F_Ratio_of F_is_less F_Ratio___eq__ l26
  have F_is_ahead := ok_is_ahead (w := w) (P := P) T F_require_cut F_is_first l27
  have F_is_stretch := ok_is_stretch (w := w) (P := P) T F_is_cut F_is_first l28
  have F_require_stretch := ok_require_stretch (w := w) (P := P) T F_is_stretch l29
  have F_Ratio___add__ := ok_Ratio___add__ (w := w) (P := P) T F_Ratio_of F_Ratio___init__ l30
  have F_mark_of := ok_mark_of (w := w) (P := P) T F_require_stretch F_Ratio_of F_Ratio_over F_Ratio___add__ l31
  have F_is_within := ok_is_within (w := w) (P := P) T F_require_number F_require_stretch F_is_beyond l32
  have F__law_cuts_right := ok__law_cuts_right (w := w) (P := P) T F_Ratio___eq__ F_is_cut F_is_above F_is_ahead F_is_stretch F_mark_of F_is_within l33
  have F_Range___init__ := ok_Range___init__ (w := w) (P := P) T F_require_number F_is_less F_Ratio_of l34
  have F_Range_outer := ok_Range_outer (w := w) (P := P) T  l35
  have F_Range_is_inner := ok_Range_is_inner (w := w) (P := P) T F_require_cut F_Range_outer F_is_first l36
  have F_as_cut := ok_as_cut (w := w) (P := P) T F_Ratio_of l37
  have F_Range_fit := ok_Range_fit (w := w) (P := P) T F_require_cut F_Range_outer F_is_first F_as_cut l38
  have F_Range_has_stretch := ok_Range_has_stretch (w := w) (P := P) T F_Range_outer F_is_stretch F_is_first l39
  have F_Range_low := ok_Range_low (w := w) (P := P) T  l40
  have F_Move_low := ok_Move_low (w := w) (P := P) T  l41
  have F_Range_high := ok_Range_high (w := w) (P := P) T  l42
  have F_Move_high := ok_Move_high (w := w) (P := P) T  l43
  have F_Range___contains__ := ok_Range___contains__ (w := w) (P := P) T F_is_number F_Ratio_of F_is_less l44
  have F__law_ranges_right := ok__law_ranges_right (w := w) (P := P) T F_Ratio_is_below F_Range___init__ F_Ratio___eq__ F_Range___eq__ F_Move___eq__ F_Range_outer F_Range_is_inner F_Range_fit F_Range_has_stretch F_Range_low F_Move_low F_Range_high F_Move_high F_Range___contains__ l45
  have F_Move___init__ := ok_Move___init__ (w := w) (P := P) T F_is_integer F_is_number F_is_less F_Ratio_of l46
  have F_Move_divisor := ok_Move_divisor (w := w) (P := P) T  l47
  have F_Move_plus := ok_Move_plus (w := w) (P := P) T  l48
  have F_extreme_of := ok_extreme_of (w := w) (P := P) T F_Ratio_of F_is_less l49
  have F_Ratio_least := ok_Ratio_least (w := w) (P := P) T F_extreme_of l50
  have F_Ratio_greatest := ok_Ratio_greatest (w := w) (P := P) T F_extreme_of l51
  have F_Move_held := ok_Move_held (w := w) (P := P) T F_Ratio_least F_Ratio_greatest l52
  have F_Move_free := ok_Move_free (w := w) (P := P) T F_Ratio_over F_Ratio_of F_Ratio___add__ l53
  have F_Move_at := ok_Move_at (w := w) (P := P) T F_require_number F_Move_held F_Move_free l54
  have F_require_move := ok_require_move (w := w) (P := P) T  l55
  have F_Ratio___mul__ := ok_Ratio___mul__ (w := w) (P := P) T F_Ratio_of F_Ratio___init__ l56
  have F_Move_then := ok_Move_then (w := w) (P := P) T F_require_move F_Move_plus F_Ratio___mul__ F_Ratio___add__ F_Move___init__ F_Move_divisor F_Move_at l57
  have F_require_range := ok_require_range (w := w) (P := P) T  l58
  have F_Ratio___neg__ := ok_Ratio___neg__ (w := w) (P := P) T F_Ratio___init__ l59
  have F_Ratio___sub__ := ok_Ratio___sub__ (w := w) (P := P) T F_Ratio_of F_Ratio___neg__ F_Ratio___add__ l60
  have F_Move_back := ok_Move_back (w := w) (P := P) T F_require_cut F_require_range F_Range_outer F_is_beyond F_Move_at F_Range_low F_Move_low F_Range_high F_Move_high F_Range_fit F_Ratio_of F_Ratio___mul__ F_Ratio___sub__ l61
  have F_Move_form := ok_Move_form (w := w) (P := P) T F_require_range F_Move_at F_Range_low F_Move_low F_Range_high F_Move_high F_Ratio___eq__ l62
  have F_Move_upper_image := ok_Move_upper_image (w := w) (P := P) T F_require_cut F_Move_free F_is_less F_Ratio___eq__ F_Move_at l63
  have F_Move_lower_image := ok_Move_lower_image (w := w) (P := P) T F_require_cut F_Move_free F_is_less F_Ratio___eq__ F_Move_at l64
  have F_Move_upper_limit := ok_Move_upper_limit (w := w) (P := P) T F_is_first F_Move_upper_image F_Ratio_of F_Ratio_sign F_Ratio_over F_is_less l65
  have F_Move_lower_limit := ok_Move_lower_limit (w := w) (P := P) T F_is_first F_Move_lower_image F_Ratio_of F_Ratio_sign F_Ratio_over F_is_less l66
  have F_Move_is_alike := ok_Move_is_alike (w := w) (P := P) T F_require_move F_require_range F_Ratio___eq__ F_Move_form l67
  have F_Move_added := ok_Move_added (w := w) (P := P) T F_Ratio___mul__ F_Move_held F_Ratio___add__ F_Move___init__ l68
  have F_Move_done := ok_Move_done (w := w) (P := P) T F_is_integer F_Move_added F_Move_then l69
  have F_whole_above := ok_whole_above (w := w) (P := P) T F_Ratio_top F_Ratio_bottom l70
  have F_Move_counted := ok_Move_counted (w := w) (P := P) T F_Ratio_sign F_whole_above F_Ratio_over F_Ratio___sub__ l71
  have F_Move_tends := ok_Move_tends (w := w) (P := P) T F_Ratio_of F_Ratio___eq__ F_Move_at F_Move_counted F_Ratio_over F_Move_held l72
  have F__law_moves_right := ok__law_moves_right (w := w) (P := P) T F_Ratio___eq__ F_Range___eq__ F_Move___eq__ F_Move_at F_Move_then F_Move_back F_Move_form F_Move_upper_image F_Move_lower_image F_Move_upper_limit F_Move_lower_limit F_Move_is_alike F_Move_done F_Move_tends F_Move_divisor F_Move_plus F_Range_low F_Move_low F_Range_high F_Move_high l73
  have F_Move_setting := ok_Move_setting (w := w) (P := P) T F_require_number F_Move___init__ l74
  have F_Move_staying := ok_Move_staying (w := w) (P := P) T F_require_range F_Move___init__ F_Range_low F_Move_low F_Range_high F_Move_high l75
  have F_Move_adding := ok_Move_adding (w := w) (P := P) T F_require_number F_require_range F_Move___init__ F_Range_low F_Move_low F_Range_high F_Move_high l76
  have F_Move_dividing := ok_Move_dividing (w := w) (P := P) T F_is_integer F_require_range F_Move___init__ F_Range_low F_Move_low F_Range_high F_Move_high l77
  have F__law_class_methods_right := ok__law_class_methods_right (w := w) (P := P) T F_Ratio___eq__ F_Range___eq__ F_Move___eq__ F_Move_setting F_Move_staying F_Move_adding F_Move_dividing l78
  have F__law_right := ok__law_right (w := w) (P := P) T F__law_thing F_Ratio___eq__ F_Range___eq__ F_Move___eq__ F__law_draw F__law_choice F__law_ratios_right F__law_cuts_right F__law_ranges_right F_Ratio_is_below F_Move___init__ F_Range___init__ F_Move_divisor F_Move_plus F_Range_low F_Move_low F_Range_high F_Move_high F__law_moves_right F__law_class_methods_right l79
  have F__law_rng := ok__law_rng (w := w) (P := P) T  l80
  have F_law := ok_law (w := w) (P := P) T F__law_right F__law_rng l81
  obtain ⟨fd, h1, h2, _⟩ := F_law.ex
  rw [funD_inj l81 h1]
  exact h2
end K18

set_option Elab.async false
set_option linter.all false
set_option autoImplicit false
set_option maxRecDepth 100000
set_option maxHeartbeats 4000000
/-! k18: the mathematics -/
namespace K18
open PySem L2 DL
local macro_rules | `(tactic| k_memK) => `(tactic| first | with_reducible exact GE.c | with_reducible exact GA.nil | ((with_reducible apply GE.var); exact rfl) | with_reducible apply GA.cons | with_reducible apply GE.bin | with_reducible apply GE.two | with_reducible apply GE.one | with_reducible apply GE.un | with_reducible apply GE.blt | with_reducible apply GE.lst | with_reducible apply GE.tup | with_reducible apply GE.call | with_reducible apply GE.makeL | with_reducible apply GE.meth | with_reducible apply GE.fld | with_reducible apply GE.prop | with_reducible apply GE.cmeth | with_reducible apply GE.cmethS | with_reducible apply GE.not | with_reducible apply GE.andB | with_reducible apply GE.orB | with_reducible apply GT.isB | with_reducible apply GT.tru | with_reducible apply GT.not | with_reducible apply GT.notF | with_reducible apply GT.notT | with_reducible apply GE.notF | with_reducible apply GE.notT | with_reducible apply GT.orB | with_reducible apply GT.andB | with_reducible exact SN.next | with_reducible apply SN.set | with_reducible apply SN.drop | with_reducible apply SR.ret | with_reducible apply SN.par2 | with_reducible apply SN.par3 | with_reducible apply SN.seq | with_reducible apply SR.seq | with_reducible apply SN.ifN | with_reducible apply SN.asg | with_reducible apply SN.for | with_reducible apply GI.seq | with_reducible apply FN.cons | with_reducible exact FN.nil | with_reducible apply SI.seq | with_reducible apply SI.fld | with_reducible apply SI.of)

abbrev R (q : Rat) : D := .ins 0 [("own_top", .int q.num), ("own_bottom", .int (q.den : Int))]
abbrev Gd (a b : Rat) : D := .ins 1 [("own_low", R a), ("own_high", R b)]
abbrev Mv (d : Int) (p a b : Rat) : D := .ins 2 [("own_divisor", .int d), ("own_plus", R p), ("own_low", R a), ("own_high", R b)]
/-! ### ints -/
theorem lt_ii (a b : Int) (μ : Store) : ltI (.int a) (.int b) μ = some (.bl (decide (a < b))) := rfl
theorem gt_ii (a b : Int) (μ : Store) : gtI (.int a) (.int b) μ = some (.bl (decide (b < a))) := rfl
theorem mod_ii {a b : Int} (h : 0 < b) (μ : Store) : modI (.int a) (.int b) μ = some (.int (a % b)) := DL.mod_int h μ
theorem mul_ii {a b : Int} (h : mulOk a b = true) (μ : Store) : mulD (.int a) (.int b) μ = some (.int (a * b)) := DL.mul_int h μ
theorem div_ii {a b : Int} (h : b ≠ 0 ∧ b.natAbs.log2 < 9000) (μ : Store) : divZ (.int a) (.int b) μ = some (.int (a.fdiv b)) := by
  simp only [divZ, int2, decide_eq_true h, if_true]
theorem ne_ii (a b : Int) (μ : Store) : neP (.int a) (.int b) μ = some (.bl (!decide (a = b))) := by
  have e : PyData.eqv (.int a) (.int b) = decide (a = b) := by
    by_cases h : a = b <;> simp [PyData.eqv, h]
  show (if SeqAt.shaped (.int a) = true ∧ SeqAt.shaped (.int b) = true then some (D.bl (!PyData.eqv (.int a) (.int b))) else none) = _
  rw [e]
  rfl
theorem abs_i (i : Int) (μ : Store) : absB [.int i] μ = some (.int (i.natAbs : Int)) := by
  show some (D.int (if i < 0 then -i else i)) = _
  congr 2
  split <;> omega
theorem log_of {i : Int} {n : Nat} (h : i.natAbs < 2 ^ n) (h0 : 0 < n) : i.natAbs.log2 < n := PySem.Flt.log2_lt_of h0 h
theorem mulOk_of {i j : Int} {n m : Nat} (h1 : i.natAbs < 2 ^ n) (h2 : j.natAbs < 2 ^ m) (h : n + m ≤ 900000) : mulOk i j = true := by
  have e1 : i.natAbs < 2 ^ (n + 1) := Nat.lt_of_lt_of_le h1 (Nat.pow_le_pow_right (by decide) (Nat.le_succ n))
  have e2 : j.natAbs < 2 ^ (m + 1) := Nat.lt_of_lt_of_le h2 (Nat.pow_le_pow_right (by decide) (Nat.le_succ m))
  have a := log_of e1 (Nat.succ_pos n)
  have b := log_of e2 (Nat.succ_pos m)
  unfold mulOk
  rw [decide_eq_true (show i.natAbs.log2 + j.natAbs.log2 < 1000000 by omega), Bool.or_true]
/-! ### the loop of the greatest common divisor -/
theorem while_gcd {τ : DenT} {δ : DenS} {ρ : Nat → Nat → DL.Env} (ht : ∀ a b, GT τ (ρ a b) (decide (b ≠ 0))) (hb : ∀ a b, b ≠ 0 → SN δ (ρ a b) (ρ b (a % b))) : ∀ (n a b : Nat), b < n → ∀ μ, ∃ k, whileL τ δ n (ρ a b) μ = .nx (ρ (Nat.gcd a b) 0) (μ ++ nn k) := by
  intro n
  induction n with
  | zero => intro a b h; omega
  | succ n ih =>
    intro a b h μ
    obtain ⟨k, e⟩ := ht a b μ
    by_cases h0 : b = 0
    · subst h0
      refine ⟨k, ?_⟩
      simp only [whileL, e, bindS, Nat.gcd_zero_right]
      rfl
    · obtain ⟨l, e2⟩ := hb a b h0 (μ ++ nn k)
      obtain ⟨j, e3⟩ := ih b (a % b) (by have := Nat.mod_lt a (Nat.pos_of_ne_zero h0); omega) (μ ++ nn (k + l))
      refine ⟨k + l + j, ?_⟩
      simp only [whileL, e, bindS, decide_eq_true h0, if_true, e2, nn_nn]
      rw [nn_nn] at e3
      rw [e3, Nat.gcd_comm b, ← Nat.gcd_rec, Nat.gcd_comm b a]
section
variable {a b c : Rat} {i j : Int}
theorem isII (i : Int) (μ : Store) : isD [0, 1, 2] [] tabk [.int i, .ty "int"] μ = some (.bl true) := by kernel_rfl
theorem isIB (i : Int) (μ : Store) : isD [0, 1, 2] [] tabk [.int i, .ty "bool"] μ = some (.bl false) := by kernel_rfl
theorem isRI (fs : List (Str × D)) (μ : Store) : isD [0, 1, 2] [] tabk [.ins 0 fs, .ty "int"] μ = some (.bl false) := by kernel_rfl
theorem isIR (i : Int) (μ : Store) : isD [0, 1, 2] [] tabk [.int i, .cls 0] μ = some (.bl false) := by kernel_rfl
theorem g_int (i : Int) : MG m_is_integer [.int i] (.bl true) := by
  unfold m_is_integer
  refine MG.rt (SR.ret (GE.andT ?_ (RO.eq (GE.not (b := false) ?_) rfl)))
  · repeat' (first | k_memK | exact isII i | exact rfl | exact fun _ => rfl | assumption | exact of_decide_eq_true rfl)
  · repeat' (first | k_memK | exact isIB i | exact rfl | exact fun _ => rfl | assumption | exact of_decide_eq_true rfl)
theorem g_intR (q : Rat) : MG m_is_integer [R q] (.bl false) := by
  unfold m_is_integer
  refine MG.rt (SR.ret (GE.andF ?_))
  repeat' (first | k_memK | exact isRI _ | exact rfl | exact fun _ => rfl | assumption | exact of_decide_eq_true rfl)
theorem g_numI (i : Int) : MG m_is_number [.int i] (.bl true) := by
  unfold m_is_number
  refine MG.rt (SR.ret (GE.orT ?_))
  repeat' (first | k_memK | exact g_int i | exact rfl | exact fun _ => rfl | assumption | exact of_decide_eq_true rfl)
theorem g_numR (q : Rat) : MG m_is_number [R q] (.bl true) := by
  unfold m_is_number
  refine MG.rt (SR.ret (GE.orF ?_ ?_))
  · repeat' (first | k_memK | exact g_intR q | exact rfl | exact fun _ => rfl | assumption | exact of_decide_eq_true rfl)
  · repeat' (first | k_memK | exact is00 _ | exact rfl | exact fun _ => rfl | assumption | exact of_decide_eq_true rfl)
theorem g_rnI (i : Int) : MG m_require_number [.int i] .non := by
  unfold m_require_number
  refine MG.nx (SN.ifF (RO.eq (GT.not (b := true) ?_) rfl) SN.next)
  repeat' (first | k_memK | exact g_numI i | exact rfl | exact fun _ => rfl | assumption | exact of_decide_eq_true rfl)
theorem g_rnR (q : Rat) : MG m_require_number [R q] .non := by
  unfold m_require_number
  refine MG.nx (SN.ifF (RO.eq (GT.not (b := true) ?_) rfl) SN.next)
  repeat' (first | k_memK | exact g_numR q | exact rfl | exact fun _ => rfl | assumption | exact of_decide_eq_true rfl)
theorem g_div (i j : Int) : MG m_divisor_of [.int i, .int j] (.int (Nat.gcd i.natAbs j.natAbs : Nat)) := by
  unfold m_divisor_of
  refine MG.rt (SR.seq (ρ1 := [some (.int (i.natAbs : Int)), some (.int (j.natAbs : Int))]) ?_ (SR.seq (ρ1 := [some (.int (Nat.gcd i.natAbs j.natAbs : Nat)), some (.int ((0 : Nat) : Int))]) ?_ ?_))
  · refine SN.par2 ?_
    repeat' (first | k_memK | exact abs_i i | exact abs_i j | exact rfl | exact fun _ => rfl | assumption | exact of_decide_eq_true rfl)
  · refine fun μ => while_gcd (ρ := fun a b => [some (.int (a : Int)), some (.int (b : Int))]) (fun a b => ?_) (fun a b h => ?_) _ i.natAbs j.natAbs (Nat.lt_succ_self _) μ
    · refine RO.eq (GT.isB (b := decide ((0 : Int) < (b : Int))) ?_) (by by_cases h : b = 0 <;> simp [h] <;> omega)
      repeat' (first | k_memK | exact gt_ii _ _ | exact rfl | exact fun _ => rfl | assumption | exact of_decide_eq_true rfl)
    · have e : ((a : Int) % (b : Int)) = ((a % b : Nat) : Int) := rfl
      rw [← e]
      refine SN.par2 ?_
      repeat' (first | k_memK | exact mod_ii (by omega) | exact rfl | exact fun _ => rfl | assumption | exact of_decide_eq_true rfl)
  · repeat' (first | k_memK | exact rfl | exact fun _ => rfl | assumption | exact of_decide_eq_true rfl)
/-! ### numbers in lowest terms -/
def sh (t b : Int) : Int := if 0 < b then (Nat.gcd t.natAbs b.natAbs : Nat) else -(Nat.gcd t.natAbs b.natAbs : Nat)
theorem sh_le {t b : Int} (hb : b ≠ 0) : sh t b ≠ 0 ∧ (sh t b).natAbs ≤ b.natAbs := by
  have h1 : 0 < Nat.gcd t.natAbs b.natAbs := Nat.gcd_pos_of_pos_right _ (by omega)
  have h2 : Nat.gcd t.natAbs b.natAbs ≤ b.natAbs := Nat.gcd_le_right _ (by omega)
  unfold sh
  split <;> omega
theorem sh_top {t b : Int} (hb : b ≠ 0) : t.fdiv (sh t b) = (Rat.divInt t b).num ∧ b.fdiv (sh t b) = ((Rat.divInt t b).den : Int) := by
  obtain ⟨g, hg⟩ : ∃ g : Nat, g = Nat.gcd t.natAbs b.natAbs := ⟨_, rfl⟩
  have hp : 0 < g := by rw [hg]; exact Nat.gcd_pos_of_pos_right _ (by omega)
  obtain ⟨t', ht⟩ : (g : Int) ∣ t := Int.ofNat_dvd_left.mpr (by rw [hg]; exact Nat.gcd_dvd_left _ _)
  obtain ⟨b', hb'⟩ : (g : Int) ∣ b := Int.ofNat_dvd_left.mpr (by rw [hg]; exact Nat.gcd_dvd_right _ _)
  have hg0 : (g : Int) ≠ 0 := by omega
  have e1 : Int.gcd b t = g := by rw [hg, Nat.gcd_comm]; rfl
  have hn : (Rat.divInt t b).num = b.sign * t' := by
    rw [Rat.num_divInt, e1, ht, ← Int.mul_assoc, Int.mul_comm b.sign, Int.mul_assoc, Int.mul_ediv_cancel_left _ hg0]
  have hd : (Rat.divInt t b).den = b'.natAbs := by
    rw [Rat.den_divInt, if_neg hb, e1, hb', Int.natAbs_mul, Int.natAbs_natCast, Nat.mul_div_cancel_left _ hp]
  rw [hn, hd]
  unfold sh
  rw [← hg]
  by_cases h : 0 < b
  · rw [if_pos h, Int.sign_eq_one_of_pos h, ht]
    have hb2 : 0 < b' := by
      rw [hb'] at h
      rcases (show 0 < b' ∨ b' ≤ 0 by omega) with h' | h'
      · exact h'
      · have := Int.mul_le_mul_of_nonneg_left h' (show (0 : Int) ≤ g by omega)
        rw [Int.mul_zero] at this
        omega
    refine ⟨by rw [Int.mul_fdiv_cancel_left _ hg0, Int.one_mul], ?_⟩
    rw [show b.fdiv g = b' by rw [hb']; exact Int.mul_fdiv_cancel_left _ hg0]
    omega
  · have hneg : b < 0 := by omega
    rw [if_neg h, Int.sign_eq_neg_one_of_neg hneg]
    have f : ∀ z : Int, ((g : Int) * z).fdiv (-(g : Int)) = -z := fun z => by
      rw [show (g : Int) * z = (-(g : Int)) * (-z) by rw [Int.neg_mul_neg]]
      exact Int.mul_fdiv_cancel_left _ (by omega)
    have hb2 : b' < 0 := by
      rw [hb'] at hneg
      rcases (show b' < 0 ∨ 0 ≤ b' by omega) with h' | h'
      · exact h'
      · have := Int.mul_le_mul_of_nonneg_left h' (show (0 : Int) ≤ g by omega)
        rw [Int.mul_zero] at this
        omega
    refine ⟨by rw [show t.fdiv (-(g : Int)) = -t' by rw [ht]; exact f t']; omega, ?_⟩
    rw [show b.fdiv (-(g : Int)) = -b' by rw [hb']; exact f b']
    omega
abbrev rf (q : Rat) : List (Str × D) := [("own_top", .int q.num), ("own_bottom", .int (q.den : Int))]
theorem g_init {t b : Int} (hb : b ≠ 0) (hs : b.natAbs < 2 ^ 8999) : MI m_Ratio___init__ 0 (fun s => [s, .int t, .int b]) (rf (Rat.divInt t b)) := by
  unfold m_Ratio___init__
  obtain ⟨e1, e2⟩ := sh_top (t := t) hb
  obtain ⟨s0, s1⟩ := sh_le (t := t) hb
  have hl : (sh t b).natAbs.log2 < 9000 := Nat.lt_trans (log_of (n := 8999) (Nat.lt_of_le_of_lt s1 hs) (by decide)) (by decide)
  refine MI.of fun n => ⟨[some (.loc n), some (.int t), some (.int b), some (.int (sh t b))], ?_⟩
  refine SI.seq (SI.of (SN.ifF (RO.eq (GT.not (b := true) ?_) rfl) SN.next)) (SI.seq (SI.of (SN.ifF (GT.orF (RO.eq (GT.not (b := true) ?_) rfl) (RO.eq (GT.isB (b := decide (b = 0)) ?_) (decide_eq_false hb))) SN.next)) (SI.seq (SI.of (SN.set (d := .int (sh t b)) ?_)) (SI.seq (SI.fld (d := .int (Rat.divInt t b).num) ?_ ?_ (by decide) (by decide) rfl) (SI.fld (d := .int ((Rat.divInt t b).den : Int)) ?_ ?_ (by decide) (by simp [putD]) rfl))))
  · repeat' (first | k_memK | exact g_int t | exact rfl | exact fun _ => rfl | assumption | exact of_decide_eq_true rfl)
  · repeat' (first | k_memK | exact g_int b | exact rfl | exact fun _ => rfl | assumption | exact of_decide_eq_true rfl)
  · repeat' (first | k_memK | exact eq_ii b 0 | exact rfl | exact fun _ => rfl | assumption | exact of_decide_eq_true rfl)
  · unfold sh
    by_cases h : 0 < b
    · rw [if_pos h]
      refine GE.ifT (RO.eq (GT.isB (b := decide (0 < b)) ?_) (decide_eq_true h)) ?_
      · repeat' (first | k_memK | exact gt_ii b 0 | exact rfl | exact fun _ => rfl | assumption | exact of_decide_eq_true rfl)
      · repeat' (first | k_memK | exact g_div t b | exact rfl | exact fun _ => rfl | assumption | exact of_decide_eq_true rfl)
    · rw [if_neg h]
      refine GE.ifF (RO.eq (GT.isB (b := decide (0 < b)) ?_) (decide_eq_false h)) ?_
      · repeat' (first | k_memK | exact gt_ii b 0 | exact rfl | exact fun _ => rfl | assumption | exact of_decide_eq_true rfl)
      · repeat' (first | k_memK | exact g_div t b | exact rfl | exact fun _ => rfl | assumption | exact of_decide_eq_true rfl)
  · rw [← e1]
    repeat' (first | k_memK | exact div_ii ⟨s0, hl⟩ | exact rfl | exact fun _ => rfl | assumption | exact of_decide_eq_true rfl)
  · repeat' (first | k_memK | exact rfl | exact fun _ => rfl | assumption | exact of_decide_eq_true rfl)
  · rw [← e2]
    repeat' (first | k_memK | exact div_ii ⟨s0, hl⟩ | exact rfl | exact fun _ => rfl | assumption | exact of_decide_eq_true rfl)
  · repeat' (first | k_memK | exact rfl | exact fun _ => rfl | assumption | exact of_decide_eq_true rfl)
/-! ### sizes -/
def Sz (n : Nat) (q : Rat) : Prop := q.num.natAbs < 2 ^ n ∧ q.den < 2 ^ n
theorem Sz.num {n : Nat} {q : Rat} (h : Sz n q) : q.num.natAbs < 2 ^ n := h.1
theorem Sz.den {n : Nat} {q : Rat} (h : Sz n q) : ((q.den : Nat) : Int).natAbs < 2 ^ n := by
  rw [Int.natAbs_natCast]
  exact h.2
theorem Sz.up {n m : Nat} {q : Rat} (h : Sz n q) (e : n ≤ m) : Sz m q := ⟨Nat.lt_of_lt_of_le h.1 (Nat.pow_le_pow_right (by decide) e), Nat.lt_of_lt_of_le h.2 (Nat.pow_le_pow_right (by decide) e)⟩
theorem mul_lt {i j : Int} {n m : Nat} (h1 : i.natAbs < 2 ^ n) (h2 : j.natAbs < 2 ^ m) : (i * j).natAbs < 2 ^ (n + m) := by
  rw [Int.natAbs_mul, Nat.pow_add]
  exact Nat.mul_lt_mul'' h1 h2
theorem add_lt {i j : Int} {n : Nat} (h1 : i.natAbs < 2 ^ n) (h2 : j.natAbs < 2 ^ n) : (i + j).natAbs < 2 ^ (n + 1) := by
  have := Int.natAbs_add_le i j
  rw [Nat.pow_succ]
  omega
theorem sz_div {t b : Int} {n : Nat} (hb : b ≠ 0) (h1 : t.natAbs < 2 ^ n) (h2 : b.natAbs < 2 ^ n) : Sz n (Rat.divInt t b) := by
  have hg : 0 < Int.gcd b t := Int.gcd_pos_of_ne_zero_left _ hb
  refine ⟨?_, ?_⟩
  · rw [Rat.num_divInt]
    refine Nat.lt_of_le_of_lt ?_ h1
    have e : (b.sign * t).natAbs ≤ t.natAbs := by
      rw [Int.natAbs_mul]
      have : b.sign.natAbs = 1 := Int.natAbs_sign_of_ne_zero hb
      rw [this, Nat.one_mul]
      exact Nat.le_refl _
    refine Nat.le_trans ?_ e
    exact Int.natAbs_ediv_le_natAbs _ _
  · rw [Rat.den_divInt, if_neg hb]
    exact Nat.lt_of_le_of_lt (Nat.div_le_self _ _) h2
theorem den_ne (q : Rat) : ((q.den : Nat) : Int) ≠ 0 := by
  have := q.den_nz
  omega
theorem den_mul_ne (a b : Rat) : ((a.den : Nat) : Int) * ((b.den : Nat) : Int) ≠ 0 := Int.mul_ne_zero (den_ne a) (den_ne b)
theorem add_div (a b : Rat) : Rat.divInt (a.num * b.den + b.num * a.den) ((a.den : Int) * b.den) = a + b := by
  rw [Rat.add_def', ← Int.natCast_mul]
  rfl
theorem mul_div (a b : Rat) : Rat.divInt (a.num * b.num) ((a.den : Int) * b.den) = a * b := by
  rw [Rat.mul_def', ← Int.natCast_mul]
  rfl
theorem over_div (a b : Rat) : Rat.divInt (a.num * b.den) ((a.den : Int) * b.num) = a / b := by
  rw [Rat.div_def, Rat.inv_def]
  conv => rhs; rw [← Rat.num_divInt_den a]
  rw [Rat.divInt_mul_divInt]
theorem neg_div (a : Rat) : Rat.divInt (-a.num) (a.den : Int) = -a := by
  rw [← Rat.neg_divInt, Rat.num_divInt_den]
theorem sz_add {n m : Nat} (ha : Sz n a) (hb : Sz m b) : Sz (n + m + 1) (a + b) := by
  rw [← add_div]
  refine sz_div (den_mul_ne a b) (add_lt (mul_lt ha.num hb.den) ?_) (Nat.lt_of_lt_of_le (mul_lt ha.den hb.den) (Nat.pow_le_pow_right (by decide) (Nat.le_succ _)))
  rw [Nat.add_comm n m]
  exact mul_lt hb.num ha.den
theorem sz_mul {n m : Nat} (ha : Sz n a) (hb : Sz m b) : Sz (n + m) (a * b) := by
  rw [← mul_div]
  exact sz_div (den_mul_ne a b) (mul_lt ha.num hb.num) (mul_lt ha.den hb.den)
theorem sz_neg {n : Nat} (ha : Sz n a) : Sz n (-a) := by
  rw [← neg_div]
  exact sz_div (den_ne a) (by rw [Int.natAbs_neg]; exact ha.num) ha.den
theorem num_ne {q : Rat} (h : q ≠ 0) : q.num ≠ 0 := fun e => h (Rat.num_eq_zero.mp e)
theorem sz_over {n m : Nat} (ha : Sz n a) (hb : Sz m b) (h0 : b ≠ 0) : Sz (n + m) (a / b) := by
  rw [← over_div]
  exact sz_div (Int.mul_ne_zero (den_ne a) (num_ne h0)) (mul_lt ha.num hb.den) (mul_lt ha.den hb.num)
theorem sz_int {n : Nat} (h : i.natAbs < 2 ^ n) (h0 : 0 < n) : Sz n (i : Rat) := ⟨by rw [Rat.num_intCast]; exact h, by rw [Rat.den_intCast]; exact Nat.one_lt_two_pow (by omega)⟩
theorem sz_sub {n m : Nat} (ha : Sz n a) (hb : Sz m b) : Sz (n + m + 1) (a - b) := by
  rw [Rat.sub_eq_add_neg]
  exact sz_add ha (sz_neg hb)
/-! ### Ratio -/
theorem GE.mk2 {δs : DenA} {ρ : DL.Env} {t b : Int} {q : Rat} {n : Nat} (h1 : GA δs ρ [.int t, .int b]) (hb : b ≠ 0) (hs : b.natAbs < 2 ^ n) (hn : n ≤ 8999) (e : Rat.divInt t b = q) : GE (dMake 0 2 0 gk_Ratio___init___2 m_Ratio___init__ δs dNil) ρ (R q) := by
  subst e
  exact GE.make h1 GA.nil rfl rfl (g_init hb (Nat.lt_of_lt_of_le hs (Nat.pow_le_pow_right (by decide) hn)))
theorem one_div (i : Int) : Rat.divInt i 1 = (i : Rat) := Rat.ext (by rw [Rat.num_divInt]; simp) (by rw [Rat.den_divInt]; simp)
theorem g_of (q : Rat) : MG m_Ratio_of [.cls 0, R q] (R q) := by
  unfold m_Ratio_of
  refine MG.rt ?_
  apply SR.seq
  · repeat' (first | k_memK | exact g_rnR q | exact rfl | exact fun _ => rfl | assumption | exact of_decide_eq_true rfl)
  · refine SR.ret (GE.ifF ?_ ?_)
    · repeat' (first | k_memK | exact g_intR q | exact rfl | exact fun _ => rfl | assumption | exact of_decide_eq_true rfl)
    · repeat' (first | k_memK | exact rfl | exact fun _ => rfl | assumption | exact of_decide_eq_true rfl)
theorem g_ofI (i : Int) : MG m_Ratio_of [.cls 0, .int i] (R (i : Rat)) := by
  unfold m_Ratio_of
  refine MG.rt ?_
  apply SR.seq
  · repeat' (first | k_memK | exact g_rnI i | exact rfl | exact fun _ => rfl | assumption | exact of_decide_eq_true rfl)
  · refine SR.ret (GE.ifT ?_ ?_)
    · repeat' (first | k_memK | exact g_int i | exact rfl | exact fun _ => rfl | assumption | exact of_decide_eq_true rfl)
    · rw [← one_div i]
      refine GE.make (ds := [.int i]) (zs := []) ?_ GA.nil rfl rfl (g_init (t := i) (b := 1) (by decide) (by decide +kernel))
      repeat' (first | k_memK | exact rfl | exact fun _ => rfl | assumption | exact of_decide_eq_true rfl)
theorem g_top (q : Rat) : MG m_Ratio_top [R q] (.int q.num) := by
  unfold m_Ratio_top
  refine MG.rt ?_
  repeat' (first | k_memK | exact rfl | exact fun _ => rfl | assumption | exact of_decide_eq_true rfl)
theorem g_bot (q : Rat) : MG m_Ratio_bottom [R q] (.int (q.den : Int)) := by
  unfold m_Ratio_bottom
  refine MG.rt ?_
  repeat' (first | k_memK | exact rfl | exact fun _ => rfl | assumption | exact of_decide_eq_true rfl)
theorem g_less {n m : Nat} (ha : Sz n a) (hb : Sz m b) (h : n + m ≤ 8000) : MG m_is_less [R a, R b] (.bl (decide (a < b))) := by
  unfold m_is_less
  refine MG.rt (SR.ret (GE.eq (d := D.bl (decide (a.num * b.den < b.num * a.den))) ?_ (by simp only [Rat.lt_iff])))
  repeat' (first | k_memK | exact g_top _ | exact g_bot _ | exact mul_ii (mulOk_of ha.num hb.den (by omega)) | exact mul_ii (mulOk_of hb.num ha.den (by omega)) | exact lt_ii _ _ | exact rfl | exact fun _ => rfl | assumption | exact of_decide_eq_true rfl)
theorem g_add {n m : Nat} (ha : Sz n a) (hb : Sz m b) (h : n + m ≤ 8000) : MG m_Ratio___add__ [R a, R b] (R (a + b)) := by
  unfold m_Ratio___add__
  refine MG.rt ?_
  apply SR.seq
  · repeat' (first | k_memK | exact g_of b | exact rfl | exact fun _ => rfl | assumption | exact of_decide_eq_true rfl)
  apply SR.seq
  · repeat' (first | k_memK | exact mul_ii (mulOk_of ha.num hb.den (by omega)) | exact mul_ii (mulOk_of hb.num ha.den (by omega)) | exact rfl | exact fun _ => rfl | assumption | exact of_decide_eq_true rfl)
  · refine SR.ret (GE.mk2 ?_ (den_mul_ne a b) (mul_lt ha.den hb.den) (by omega) (add_div a b))
    repeat' (first | k_memK | exact mul_ii (mulOk_of ha.den hb.den (by omega)) | exact rfl | exact fun _ => rfl | assumption | exact of_decide_eq_true rfl)
theorem g_mul {n m : Nat} (ha : Sz n a) (hb : Sz m b) (h : n + m ≤ 8000) : MG m_Ratio___mul__ [R a, R b] (R (a * b)) := by
  unfold m_Ratio___mul__
  refine MG.rt ?_
  apply SR.seq
  · repeat' (first | k_memK | exact g_of b | exact rfl | exact fun _ => rfl | assumption | exact of_decide_eq_true rfl)
  · refine SR.ret (GE.mk2 ?_ (den_mul_ne a b) (mul_lt ha.den hb.den) (by omega) (mul_div a b))
    repeat' (first | k_memK | exact mul_ii (mulOk_of ha.den hb.den (by omega)) | exact mul_ii (mulOk_of ha.num hb.num (by omega)) | exact rfl | exact fun _ => rfl | assumption | exact of_decide_eq_true rfl)
theorem den_i (i : Int) : ((i : Rat).den : Int) = 1 := by rw [Rat.den_intCast]; rfl
theorem g_mulI {n m : Nat} (ha : Sz n a) (hi : i.natAbs < 2 ^ m) (h : n + m ≤ 8000) (h0 : 0 < m) : MG m_Ratio___mul__ [R a, .int i] (R (a * (i : Rat))) := by
  unfold m_Ratio___mul__
  have hb := sz_int hi h0
  refine MG.rt ?_
  apply SR.seq
  · repeat' (first | k_memK | exact g_ofI i | exact rfl | exact fun _ => rfl | assumption | exact of_decide_eq_true rfl)
  · refine SR.ret (GE.mk2 ?_ (den_mul_ne a i) (mul_lt ha.den hb.den) (by omega) (mul_div a i))
    repeat' (first | k_memK | exact mul_ii (mulOk_of ha.den hb.den (by omega)) | exact mul_ii (mulOk_of ha.num hb.num (by omega)) | exact rfl | exact fun _ => rfl | assumption | exact of_decide_eq_true rfl)
theorem g_neg {n : Nat} (ha : Sz n a) (h : n ≤ 8000) : MG m_Ratio___neg__ [R a] (R (-a)) := by
  unfold m_Ratio___neg__
  refine MG.rt ?_
  refine SR.ret (GE.mk2 ?_ (den_ne a) ha.den (by omega) (neg_div a))
  repeat' (first | k_memK | exact rfl | exact fun _ => rfl | assumption | exact of_decide_eq_true rfl)
theorem g_over {n m : Nat} (ha : Sz n a) (hb : Sz m b) (h : n + m ≤ 8000) (h0 : b ≠ 0) : MG m_Ratio_over [R a, R b] (R (a / b)) := by
  unfold m_Ratio_over
  have hn := num_ne h0
  refine MG.rt ?_
  apply SR.seq
  · repeat' (first | k_memK | exact g_of b | exact rfl | exact fun _ => rfl | assumption | exact of_decide_eq_true rfl)
  apply SR.seq
  · repeat' (first | k_memK | exact eq_ii _ _ | exact decide_eq_false hn | exact rfl | exact fun _ => rfl | assumption | exact of_decide_eq_true rfl)
  · refine SR.ret (GE.mk2 ?_ (Int.mul_ne_zero (den_ne a) hn) (mul_lt ha.den hb.num) (by omega) (over_div a b))
    repeat' (first | k_memK | exact mul_ii (mulOk_of ha.num hb.den (by omega)) | exact mul_ii (mulOk_of ha.den hb.num (by omega)) | exact rfl | exact fun _ => rfl | assumption | exact of_decide_eq_true rfl)
theorem int_ne (h : i ≠ 0) : (i : Rat) ≠ 0 := fun e => h (Rat.intCast_inj.mp (by simpa using e))
theorem g_overI {n m : Nat} (ha : Sz n a) (hi : i.natAbs < 2 ^ m) (h : n + m ≤ 8000) (hm : 0 < m) (h0 : i ≠ 0) : MG m_Ratio_over [R a, .int i] (R (a / (i : Rat))) := by
  unfold m_Ratio_over
  have hb := sz_int hi hm
  have hn := num_ne (int_ne h0)
  refine MG.rt ?_
  apply SR.seq
  · repeat' (first | k_memK | exact g_ofI i | exact rfl | exact fun _ => rfl | assumption | exact of_decide_eq_true rfl)
  apply SR.seq
  · repeat' (first | k_memK | exact eq_ii _ _ | exact decide_eq_false hn | exact rfl | exact fun _ => rfl | assumption | exact of_decide_eq_true rfl)
  · refine SR.ret (GE.mk2 ?_ (Int.mul_ne_zero (den_ne a) hn) (mul_lt ha.den hb.num) (by omega) (over_div a i))
    repeat' (first | k_memK | exact mul_ii (mulOk_of ha.num hb.den (by omega)) | exact mul_ii (mulOk_of ha.den hb.num (by omega)) | exact rfl | exact fun _ => rfl | assumption | exact of_decide_eq_true rfl)
theorem g_below {n m : Nat} (ha : Sz n a) (hb : Sz m b) (h : n + m ≤ 8000) : MG m_Ratio_is_below [R a, R b] (.bl (decide (a < b))) := by
  unfold m_Ratio_is_below
  refine MG.rt ?_
  repeat' (first | k_memK | exact g_of b | exact g_less ha hb h | exact rfl | exact fun _ => rfl | assumption | exact of_decide_eq_true rfl)
theorem g_sign (q : Rat) : ∃ s : Int, MG m_Ratio_sign [R q] (.int s) ∧ s = (if 0 < q.num then 1 else 0) - (if q.num < 0 then 1 else 0) := by
  unfold m_Ratio_sign
  refine ⟨_, MG.rt (SR.ret (GE.bin (x := .int (if 0 < q.num then 1 else 0)) (y := .int (if q.num < 0 then 1 else 0)) ?_ ?_ fun _ => rfl)), rfl⟩
  · refine GE.blt (xs := [.bl (decide (0 < q.num))]) ?_ ?_
    · repeat' (first | k_memK | exact gt_ii _ _ | exact rfl | exact fun _ => rfl | assumption | exact of_decide_eq_true rfl)
    · intro μ
      by_cases h : 0 < q.num <;> simp [h, intB]
  · refine GE.blt (xs := [.bl (decide (q.num < 0))]) ?_ ?_
    · repeat' (first | k_memK | exact lt_ii _ _ | exact rfl | exact fun _ => rfl | assumption | exact of_decide_eq_true rfl)
    · intro μ
      by_cases h : q.num < 0 <;> simp [h, intB]
/-! ### == of Ratios -/
theorem g_eqm (a b : Rat) : MG m_Ratio___eq__ [R a, R b] (.bl (decide (a = b))) := fun μ => ⟨0, by
  have e : decide (a = b) = (a.num == b.num && (a.den : Int) == (b.den : Int)) := by
    by_cases h : a = b
    · subst h
      simp
    · rw [decide_eq_false h]
      symm
      rw [Bool.and_eq_false_iff]
      by_cases h1 : a.num = b.num
      · right
        simp only [beq_eq_false_iff_ne, ne_eq]
        exact fun h2 => h (Rat.ext h1 (by omega))
      · left
        simpa using h1
  rw [e, leafR.run _ _ _ μ rfl]
  simp [nn]⟩
theorem eqP_ins (x : D) (fs : List (Str × D)) (c : Nat) (μ : Store) : eqP (.ins c fs) x μ = none := by
  simp only [eqP, pyOf, toPy]
theorem neP_ins (x : D) (fs : List (Str × D)) (c : Nat) (μ : Store) : neP (.ins c fs) x μ = none := by
  simp only [neP, pyOf, toPy]
theorem f_eq (a b : Rat) : FG eqR (R a) (R b) (.bl (decide (a = b))) := FG.or2 (bad_op (eqP_ins _ _ _)) fun μ => by
  obtain ⟨k, e⟩ := g_eqm a b μ
  exact ⟨k, by rw [← e]; rfl⟩
theorem f_ne (a b : Rat) : FG neR (R a) (R b) (.bl (!decide (a = b))) := FG.or2 (bad_op (neP_ins _ _ _)) fun μ => by
  obtain ⟨k, e⟩ := g_eqm a b μ
  refine ⟨k, ?_⟩
  show notR (m_Ratio___eq__ [R a, R b] μ) = _
  rw [e]
  rfl
end
end K18

set_option Elab.async false
set_option linter.all false
set_option autoImplicit false
set_option maxRecDepth 100000
set_option maxHeartbeats 4000000
/-! k18: the mathematics: operators, cuts, ranges -/
namespace K18
open PySem L2 DL
local macro_rules | `(tactic| k_memK) => `(tactic| first | with_reducible exact GE.c | with_reducible exact GA.nil | ((with_reducible apply GE.var); exact rfl) | with_reducible apply GA.cons | with_reducible apply GE.bin | with_reducible apply GE.two | with_reducible apply GE.one | with_reducible apply GE.un | with_reducible apply GE.blt | with_reducible apply GE.lst | with_reducible apply GE.tup | with_reducible apply GE.call | with_reducible apply GE.makeL | with_reducible apply GE.meth | with_reducible apply GE.fld | with_reducible apply GE.prop | with_reducible apply GE.cmeth | with_reducible apply GE.cmethS | with_reducible apply GE.not | with_reducible apply GE.andB | with_reducible apply GE.orB | with_reducible apply GT.isB | with_reducible apply GT.tru | with_reducible apply GT.not | with_reducible apply GT.notF | with_reducible apply GT.notT | with_reducible apply GE.notF | with_reducible apply GE.notT | with_reducible apply GT.orB | with_reducible apply GT.andB | with_reducible exact SN.next | with_reducible apply SN.set | with_reducible apply SN.drop | with_reducible apply SR.ret | with_reducible apply SN.par2 | with_reducible apply SN.par3 | with_reducible apply SN.seq | with_reducible apply SR.seq | with_reducible apply SN.ifN | with_reducible apply SN.asg | with_reducible apply SN.for | with_reducible apply GI.seq | with_reducible apply FN.cons | with_reducible exact FN.nil | with_reducible apply SI.seq | with_reducible apply SI.fld | with_reducible apply SI.of)
section
variable {a b c x y : Rat} {i j : Int} {f g : Bool} {n m l : Nat}
theorem f_add (ha : Sz n a) (hb : Sz m b) (h : n + m ≤ 8000) : FG addU (R a) (R b) (R (a + b)) := FG.or2 (bad_op fun μ => rfl) fun μ => by
  obtain ⟨k, e⟩ := g_add ha hb h μ
  exact ⟨k, by rw [← e]; rfl⟩
theorem f_mul (ha : Sz n a) (hb : Sz m b) (h : n + m ≤ 8000) : FG mulU (R a) (R b) (R (a * b)) := FG.or2 (bad_op fun μ => rfl) fun μ => by
  obtain ⟨k, e⟩ := g_mul ha hb h μ
  exact ⟨k, by rw [← e]; rfl⟩
theorem f_mulI (ha : Sz n a) (hi : i.natAbs < 2 ^ m) (h : n + m ≤ 8000) (h0 : 0 < m) : FG mulU (R a) (.int i) (R (a * (i : Rat))) := FG.or2 (bad_op fun μ => rfl) fun μ => by
  obtain ⟨k, e⟩ := g_mulI ha hi h h0 μ
  exact ⟨k, by rw [← e]; rfl⟩
theorem f_mulII (h : mulOk i j = true) : FG mulU (.int i) (.int j) (.int (i * j)) := FG.or1 (FG.op (mul_ii h))
theorem f_neg (ha : Sz n a) (h : n ≤ 8000) : F1 negU (R a) (R (-a)) := fun μ => by
  obtain ⟨k, e⟩ := g_neg ha h μ
  exact ⟨k, by rw [← e]; rfl⟩
theorem g_sub (ha : Sz n a) (hb : Sz m b) (h : n + m ≤ 8000) : MG m_Ratio___sub__ [R a, R b] (R (a - b)) := by
  unfold m_Ratio___sub__
  rw [Rat.sub_eq_add_neg]
  refine MG.rt ?_
  repeat' (first | k_memK | exact g_of b | exact f_neg hb (by omega) | exact f_add ha (sz_neg hb) h | exact rfl | exact fun _ => rfl | assumption | exact of_decide_eq_true rfl)
theorem f_sub (ha : Sz n a) (hb : Sz m b) (h : n + m ≤ 8000) : FG subU (R a) (R b) (R (a - b)) := FG.or2 (bad_op fun μ => rfl) fun μ => by
  obtain ⟨k, e⟩ := g_sub ha hb h μ
  exact ⟨k, by rw [← e]; rfl⟩
/-! ### cuts -/
abbrev Ct (q : Rat) (f : Bool) : D := .tup [R q, .bl f]
theorem isTT (xs : List D) (μ : Store) : isD [0, 1, 2] [] tabk [.tup xs, .ty "tuple"] μ = some (.bl true) := by kernel_rfl
theorem isLT (xs : List D) (μ : Store) : isD [0, 1, 2] [] tabk [.lst xs, .ty "tuple"] μ = some (.bl false) := by kernel_rfl
theorem isBB (f : Bool) (μ : Store) : isD [0, 1, 2] [] tabk [.bl f, .ty "bool"] μ = some (.bl true) := by kernel_rfl
theorem len2 (x y : D) (μ : Store) : lenB [.tup [x, y]] μ = some (.int 2) := rfl
theorem g_cut (q : Rat) (f : Bool) : MG m_is_cut [Ct q f] (.bl true) := by
  unfold m_is_cut
  refine MG.rt (SR.ret (GE.andT ?_ (GE.andT ?_ (GE.andT ?_ ?_))))
  · repeat' (first | k_memK | exact isTT _ | exact rfl | exact fun _ => rfl | assumption | exact of_decide_eq_true rfl)
  · repeat' (first | k_memK | exact len2 _ _ | exact eq_ii 2 2 | exact rfl | exact fun _ => rfl | assumption | exact of_decide_eq_true rfl)
  · repeat' (first | k_memK | exact g_numR q | exact rfl | exact fun _ => rfl | assumption | exact of_decide_eq_true rfl)
  · repeat' (first | k_memK | exact isBB f | exact rfl | exact fun _ => rfl | assumption | exact of_decide_eq_true rfl)
theorem g_rcut (q : Rat) (f : Bool) : MG m_require_cut [Ct q f] .non := by
  unfold m_require_cut
  apply MG.nx
  repeat' (first | k_memK | exact g_cut q f | exact rfl | exact fun _ => rfl | assumption | exact of_decide_eq_true rfl)
def fst (a : Rat) (f : Bool) (b : Rat) (g : Bool) : Bool := decide (a < b) || (decide (a = b) && (g && !f))
theorem g_first (ha : Sz n a) (hb : Sz m b) (h : n + m ≤ 8000) : MG m_is_first [Ct a f, Ct b g] (.bl (fst a f b g)) := by
  unfold m_is_first
  refine MG.rt ?_
  unfold fst
  repeat' (first | k_memK | exact g_of a | exact g_of b | exact g_less ha hb h | exact f_eq a b | exact rfl | exact fun _ => rfl | assumption | exact of_decide_eq_true rfl)
theorem g_ahead (ha : Sz n a) (hb : Sz m b) (h : n + m ≤ 8000) : MG m_is_ahead [Ct a f, Ct b g] (.bl (fst a f b g)) := by
  unfold m_is_ahead
  refine MG.rt ?_
  repeat' (first | k_memK | exact g_rcut a f | exact g_rcut b g | exact g_first ha hb h | exact rfl | exact fun _ => rfl | assumption | exact of_decide_eq_true rfl)
def byd (x c : Rat) (f : Bool) : Bool := decide (c < x) || (decide (x = c) && !f)
theorem g_beyond (ha : Sz n x) (hb : Sz m c) (h : n + m ≤ 8000) : MG m_is_beyond [R x, Ct c f] (.bl (byd x c f)) := by
  unfold m_is_beyond
  refine MG.rt ?_
  unfold byd
  repeat' (first | k_memK | exact g_of x | exact g_of c | exact g_less hb ha (by omega) | exact f_eq x c | exact rfl | exact fun _ => rfl | assumption | exact of_decide_eq_true rfl)
theorem g_above (ha : Sz n x) (hb : Sz m c) (h : n + m ≤ 8000) : MG m_is_above [R x, Ct c f] (.bl (byd x c f)) := by
  unfold m_is_above
  refine MG.rt ?_
  repeat' (first | k_memK | exact g_rnR x | exact g_rcut c f | exact g_beyond ha hb h | exact rfl | exact fun _ => rfl | assumption | exact of_decide_eq_true rfl)
theorem g_stretch (ha : Sz n a) (hb : Sz m b) (h : n + m ≤ 8000) : MG m_is_stretch [.tup [Ct a f, Ct b g]] (.bl (fst a f b g)) := by
  unfold m_is_stretch
  refine MG.rt ?_
  apply SR.seq
  · refine SN.set (d := .bl true) (GE.andT ?_ (GE.andT ?_ (GE.andT ?_ ?_)))
    · repeat' (first | k_memK | exact isTT _ | exact rfl | exact fun _ => rfl | assumption | exact of_decide_eq_true rfl)
    · repeat' (first | k_memK | exact len2 _ _ | exact eq_ii 2 2 | exact rfl | exact fun _ => rfl | assumption | exact of_decide_eq_true rfl)
    · repeat' (first | k_memK | exact g_cut a f | exact rfl | exact fun _ => rfl | assumption | exact of_decide_eq_true rfl)
    · repeat' (first | k_memK | exact g_cut b g | exact rfl | exact fun _ => rfl | assumption | exact of_decide_eq_true rfl)
  · refine SR.ret (GE.andT ?_ ?_)
    · repeat' (first | k_memK | exact rfl | exact fun _ => rfl | assumption | exact of_decide_eq_true rfl)
    · repeat' (first | k_memK | exact g_first ha hb h | exact rfl | exact fun _ => rfl | assumption | exact of_decide_eq_true rfl)
theorem g_stretchL (xs : List D) : MG m_is_stretch [.lst xs] (.bl false) := by
  unfold m_is_stretch
  refine MG.rt ?_
  apply SR.seq
  · refine SN.set (d := .bl false) (GE.andF ?_)
    repeat' (first | k_memK | exact isLT _ | exact rfl | exact fun _ => rfl | assumption | exact of_decide_eq_true rfl)
  · refine SR.ret (GE.andF ?_)
    repeat' (first | k_memK | exact rfl | exact fun _ => rfl | assumption | exact of_decide_eq_true rfl)
theorem g_rstretch (ha : Sz n a) (hb : Sz m b) (h : n + m ≤ 8000) (hs : fst a f b g = true) : MG m_require_stretch [.tup [Ct a f, Ct b g]] .non := by
  unfold m_require_stretch
  have hx := g_stretch (f := f) (g := g) ha hb h
  rw [hs] at hx
  apply MG.nx
  repeat' (first | k_memK | exact hx | exact rfl | exact fun _ => rfl | assumption | exact of_decide_eq_true rfl)
theorem g_within (ha : Sz n a) (hb : Sz m b) (hx : Sz l x) (h : n + m ≤ 8000) (h1 : l + n ≤ 8000) (h2 : l + m ≤ 8000) (hs : fst a f b g = true) : MG m_is_within [R x, .tup [Ct a f, Ct b g]] (.bl (byd x a f && !byd x b g)) := by
  unfold m_is_within
  refine MG.rt ?_
  repeat' (first | k_memK | exact g_rnR x | exact g_rstretch ha hb h hs | exact g_beyond hx ha h1 | exact g_beyond hx hb h2 | exact rfl | exact fun _ => rfl | assumption | exact of_decide_eq_true rfl)
theorem g_mark (ha : Sz n a) (hb : Sz m b) (h : n + m + 3 ≤ 8000) (hs : fst a f b g = true) : ∃ q, MG m_mark_of [.tup [Ct a f, Ct b g]] (R q) := by
  unfold m_mark_of
  have hr := g_rstretch ha hb (by omega) hs
  cases f
  · refine ⟨a, MG.rt ?_⟩
    apply SR.seq
    · repeat' (first | k_memK | exact hr | exact rfl | exact fun _ => rfl | assumption | exact of_decide_eq_true rfl)
    apply SR.seq
    · repeat' (first | k_memK | exact rfl | exact fun _ => rfl | assumption | exact of_decide_eq_true rfl)
    apply SR.fst
    refine SR.ifY (b := true) (GT.orT ?_) rfl (SR.ret (GE.cmeth (ds := [R a]) (zs := []) GE.c (GA.cons (GE.ifF ?_ ?_) GA.nil) GA.nil rfl rfl (g_of a)))
    · repeat' (first | k_memK | exact rfl | exact fun _ => rfl | assumption | exact of_decide_eq_true rfl)
    · repeat' (first | k_memK | exact rfl | exact fun _ => rfl | assumption | exact of_decide_eq_true rfl)
    · repeat' (first | k_memK | exact rfl | exact fun _ => rfl | assumption | exact of_decide_eq_true rfl)
  · cases g
    · refine ⟨(a + b) / ((2 : Int) : Rat), MG.rt ?_⟩
      apply SR.seq
      · repeat' (first | k_memK | exact hr | exact rfl | exact fun _ => rfl | assumption | exact of_decide_eq_true rfl)
      apply SR.seq
      · repeat' (first | k_memK | exact rfl | exact fun _ => rfl | assumption | exact of_decide_eq_true rfl)
      apply SR.seq
      · repeat' (first | k_memK | exact rfl | exact fun _ => rfl | assumption | exact of_decide_eq_true rfl)
      · repeat' (first | k_memK | exact g_of a | exact f_add ha hb (by omega) | exact g_overI (sz_add ha hb) (i := 2) (m := 2) (by decide) (by omega) (by decide) (by decide) | exact rfl | exact fun _ => rfl | assumption | exact of_decide_eq_true rfl)
    · refine ⟨b, MG.rt ?_⟩
      apply SR.seq
      · repeat' (first | k_memK | exact hr | exact rfl | exact fun _ => rfl | assumption | exact of_decide_eq_true rfl)
      apply SR.seq
      · repeat' (first | k_memK | exact rfl | exact fun _ => rfl | assumption | exact of_decide_eq_true rfl)
      apply SR.fst
      refine SR.ifY (b := true) (GT.orF ?_ ?_) rfl (SR.ret (GE.cmeth (ds := [R b]) (zs := []) GE.c (GA.cons (GE.ifT ?_ ?_) GA.nil) GA.nil rfl rfl (g_of b)))
      · repeat' (first | k_memK | exact rfl | exact fun _ => rfl | assumption | exact of_decide_eq_true rfl)
      · repeat' (first | k_memK | exact rfl | exact fun _ => rfl | assumption | exact of_decide_eq_true rfl)
      · repeat' (first | k_memK | exact rfl | exact fun _ => rfl | assumption | exact of_decide_eq_true rfl)
      · repeat' (first | k_memK | exact rfl | exact fun _ => rfl | assumption | exact of_decide_eq_true rfl)
theorem g_ascut (q : Rat) (f : Bool) : MG m_as_cut [Ct q f] (Ct q f) := by
  unfold m_as_cut
  refine MG.rt ?_
  repeat' (first | k_memK | exact g_of q | exact by decide | exact rfl | exact fun _ => rfl | assumption | exact of_decide_eq_true rfl)
end
end K18

set_option Elab.async false
set_option linter.all false
set_option autoImplicit false
set_option maxRecDepth 100000
set_option maxHeartbeats 4000000
/-! k18: the mathematics: ranges, == of all -/
namespace K18
open PySem L2 DL
local macro_rules | `(tactic| k_memK) => `(tactic| first | with_reducible exact GE.c | with_reducible exact GA.nil | ((with_reducible apply GE.var); exact rfl) | with_reducible apply GA.cons | with_reducible apply GE.bin | with_reducible apply GE.two | with_reducible apply GE.one | with_reducible apply GE.un | with_reducible apply GE.blt | with_reducible apply GE.lst | with_reducible apply GE.tup | with_reducible apply GE.call | with_reducible apply GE.makeL | with_reducible apply GE.meth | with_reducible apply GE.fld | with_reducible apply GE.prop | with_reducible apply GE.cmeth | with_reducible apply GE.cmethS | with_reducible apply GE.not | with_reducible apply GE.andB | with_reducible apply GE.orB | with_reducible apply GT.isB | with_reducible apply GT.tru | with_reducible apply GT.not | with_reducible apply GT.notF | with_reducible apply GT.notT | with_reducible apply GE.notF | with_reducible apply GE.notT | with_reducible apply GT.orB | with_reducible apply GT.andB | with_reducible exact SN.next | with_reducible apply SN.set | with_reducible apply SN.drop | with_reducible apply SR.ret | with_reducible apply SN.par2 | with_reducible apply SN.par3 | with_reducible apply SN.seq | with_reducible apply SR.seq | with_reducible apply SN.ifN | with_reducible apply SN.asg | with_reducible apply SN.for | with_reducible apply GI.seq | with_reducible apply FN.cons | with_reducible exact FN.nil | with_reducible apply SI.seq | with_reducible apply SI.fld | with_reducible apply SI.of)
section
variable {a b c d x y : Rat} {i j : Int} {f g : Bool} {n m l : Nat}
theorem g_rinit (ha : Sz n a) (hb : Sz m b) (h : m + n ≤ 8000) (hab : ¬ b < a) : MI m_Range___init__ 1 (fun s => [s, R a, R b]) [("own_low", R a), ("own_high", R b)] := by
  unfold m_Range___init__
  refine MI.of fun n => ?_
  apply Exists.intro
  repeat' (first | k_memK | exact g_rnR a | exact g_rnR b | exact g_of a | exact g_of b | exact g_less hb ha h | exact decide_eq_false hab | exact rfl | exact fun _ => rfl | assumption | exact of_decide_eq_true rfl)
theorem g_outer (a b : Rat) : MG m_Range_outer [Gd a b] (.tup [Ct a false, Ct b true]) := by
  unfold m_Range_outer
  refine MG.rt ?_
  repeat' (first | k_memK | exact by decide | exact rfl | exact fun _ => rfl | assumption | exact of_decide_eq_true rfl)
theorem g_inner (ha : Sz n a) (hb : Sz m b) (hc : Sz l c) (h : n + m + l ≤ 8000) : MG m_Range_is_inner [Gd a b, Ct c f] (.bl (fst a false c f && fst c f b true)) := by
  unfold m_Range_is_inner
  refine MG.rt ?_
  repeat' (first | k_memK | exact g_rcut c f | exact g_outer a b | exact g_first ha hc (by omega) | exact g_first hc hb (by omega) | exact rfl | exact fun _ => rfl | assumption | exact of_decide_eq_true rfl)
theorem g_fit (ha : Sz n a) (hb : Sz m b) (hc : Sz l c) (h : n + m + l ≤ 8000) : ∃ q g, MG m_Range_fit [Gd a b, Ct c f] (Ct q g) := by
  unfold m_Range_fit
  cases e1 : fst a false c f
  · refine ⟨a, false, MG.rt ?_⟩
    apply SR.seq
    · repeat' (first | k_memK | exact g_rcut c f | exact rfl | exact fun _ => rfl | assumption | exact of_decide_eq_true rfl)
    apply SR.seq
    · repeat' (first | k_memK | exact g_outer a b | exact rfl | exact fun _ => rfl | assumption | exact of_decide_eq_true rfl)
    apply SR.fst
    have h1 := g_first (f := false) (g := f) ha hc (by omega)
    rw [e1] at h1
    refine SR.ifY (b := true) (GT.notF (GT.tru ?_)) rfl (SR.ret ?_)
    · repeat' (first | k_memK | exact h1 | exact rfl | exact fun _ => rfl | assumption | exact of_decide_eq_true rfl)
    · repeat' (first | k_memK | exact rfl | exact fun _ => rfl | assumption | exact of_decide_eq_true rfl)
  · have h1 := g_first (f := false) (g := f) ha hc (by omega)
    rw [e1] at h1
    cases e2 : fst c f b true
    · refine ⟨b, true, MG.rt ?_⟩
      have h2 := g_first (f := f) (g := true) hc hb (by omega)
      rw [e2] at h2
      apply SR.seq
      · repeat' (first | k_memK | exact g_rcut c f | exact rfl | exact fun _ => rfl | assumption | exact of_decide_eq_true rfl)
      apply SR.seq
      · repeat' (first | k_memK | exact g_outer a b | exact rfl | exact fun _ => rfl | assumption | exact of_decide_eq_true rfl)
      apply SR.seq
      · repeat' (first | k_memK | exact h1 | exact rfl | exact fun _ => rfl | assumption | exact of_decide_eq_true rfl)
      · refine SR.ret (GE.ifF (GT.tru ?_) ?_)
        · repeat' (first | k_memK | exact h2 | exact rfl | exact fun _ => rfl | assumption | exact of_decide_eq_true rfl)
        · repeat' (first | k_memK | exact rfl | exact fun _ => rfl | assumption | exact of_decide_eq_true rfl)
    · refine ⟨c, f, MG.rt ?_⟩
      have h2 := g_first (f := f) (g := true) hc hb (by omega)
      rw [e2] at h2
      apply SR.seq
      · repeat' (first | k_memK | exact g_rcut c f | exact rfl | exact fun _ => rfl | assumption | exact of_decide_eq_true rfl)
      apply SR.seq
      · repeat' (first | k_memK | exact g_outer a b | exact rfl | exact fun _ => rfl | assumption | exact of_decide_eq_true rfl)
      apply SR.seq
      · repeat' (first | k_memK | exact h1 | exact rfl | exact fun _ => rfl | assumption | exact of_decide_eq_true rfl)
      · refine SR.ret (GE.ifT (GT.tru ?_) ?_)
        · repeat' (first | k_memK | exact h2 | exact rfl | exact fun _ => rfl | assumption | exact of_decide_eq_true rfl)
        · repeat' (first | k_memK | exact g_ascut c f | exact rfl | exact fun _ => rfl | assumption | exact of_decide_eq_true rfl)
theorem fst_out (h : ¬ b < a) : fst a false b true = true := by
  unfold fst
  by_cases e : a = b
  · simp [e]
  · have : a < b := by grind
    simp [this]
theorem fst_self (a : Rat) (f : Bool) : fst a f a f = false := by
  unfold fst
  have : ¬ a < a := by grind
  cases f <;> simp [this]
theorem g_hs (ha : Sz n a) (hb : Sz m b) (h : 2 * n + 2 * m ≤ 8000) (hab : ¬ b < a) : MG m_Range_has_stretch [Gd a b, .tup [Ct a false, Ct b true]] (.bl true) := by
  unfold m_Range_has_stretch
  have h1 := g_stretch (f := false) (g := true) ha hb (by omega)
  rw [fst_out hab] at h1
  have h2 := g_first (f := false) (g := false) ha ha (by omega)
  rw [fst_self] at h2
  have h3 := g_first (f := true) (g := true) hb hb (by omega)
  rw [fst_self] at h3
  refine MG.rt ?_
  apply SR.seq
  · repeat' (first | k_memK | exact g_outer a b | exact rfl | exact fun _ => rfl | assumption | exact of_decide_eq_true rfl)
  · refine SR.ret (GE.andT ?_ (GE.andT (GE.notF ?_) (GE.notF ?_)))
    · repeat' (first | k_memK | exact h1 | exact rfl | exact fun _ => rfl | assumption | exact of_decide_eq_true rfl)
    · repeat' (first | k_memK | exact h2 | exact rfl | exact fun _ => rfl | assumption | exact of_decide_eq_true rfl)
    · repeat' (first | k_memK | exact h3 | exact rfl | exact fun _ => rfl | assumption | exact of_decide_eq_true rfl)
theorem g_hsL (a b : Rat) (xs : List D) : MG m_Range_has_stretch [Gd a b, .lst xs] (.bl false) := by
  unfold m_Range_has_stretch
  refine MG.rt ?_
  apply SR.seq
  · repeat' (first | k_memK | exact g_outer a b | exact rfl | exact fun _ => rfl | assumption | exact of_decide_eq_true rfl)
  · refine SR.ret (GE.andF ?_)
    repeat' (first | k_memK | exact g_stretchL xs | exact rfl | exact fun _ => rfl | assumption | exact of_decide_eq_true rfl)
theorem g_in (ha : Sz n a) (hb : Sz m b) (hx : Sz l x) (h : n + m + l ≤ 8000) : MG m_Range___contains__ [Gd a b, R x] (.bl (!decide (x < a) && !decide (b < x))) := by
  unfold m_Range___contains__
  refine MG.rt ?_
  repeat' (first | k_memK | exact g_numR x | exact g_of x | exact g_less hx ha (by omega) | exact g_less hb hx (by omega) | exact rfl | exact fun _ => rfl | assumption | exact of_decide_eq_true rfl)
theorem g_low1 (a b : Rat) : MG m_Range_low [Gd a b] (R a) := by
  unfold m_Range_low
  refine MG.rt ?_
  repeat' (first | k_memK | exact rfl | exact fun _ => rfl | assumption | exact of_decide_eq_true rfl)
theorem g_high1 (a b : Rat) : MG m_Range_high [Gd a b] (R b) := by
  unfold m_Range_high
  refine MG.rt ?_
  repeat' (first | k_memK | exact rfl | exact fun _ => rfl | assumption | exact of_decide_eq_true rfl)
theorem g_low2 (z : Int) (p a b : Rat) : MG m_Move_low [Mv z p a b] (R a) := by
  unfold m_Move_low
  refine MG.rt ?_
  repeat' (first | k_memK | exact rfl | exact fun _ => rfl | assumption | exact of_decide_eq_true rfl)
theorem g_high2 (z : Int) (p a b : Rat) : MG m_Move_high [Mv z p a b] (R b) := by
  unfold m_Move_high
  refine MG.rt ?_
  repeat' (first | k_memK | exact rfl | exact fun _ => rfl | assumption | exact of_decide_eq_true rfl)
theorem g_dv (z : Int) (p a b : Rat) : MG m_Move_divisor [Mv z p a b] (.int z) := by
  unfold m_Move_divisor
  refine MG.rt ?_
  repeat' (first | k_memK | exact rfl | exact fun _ => rfl | assumption | exact of_decide_eq_true rfl)
theorem g_pl (z : Int) (p a b : Rat) : MG m_Move_plus [Mv z p a b] (R p) := by
  unfold m_Move_plus
  refine MG.rt ?_
  repeat' (first | k_memK | exact rfl | exact fun _ => rfl | assumption | exact of_decide_eq_true rfl)
/-! ### == -/
theorem is11 (fs : List (Str × D)) (μ : Store) : isD [0, 1, 2] [] tabk [.ins 1 fs, .cls 1] μ = some (.bl true) := by kernel_rfl
theorem is22 (fs : List (Str × D)) (μ : Store) : isD [0, 1, 2] [] tabk [.ins 2 fs, .cls 2] μ = some (.bl true) := by kernel_rfl
theorem isT0 (xs : List D) (μ : Store) : isD [0, 1, 2] [] tabk [.tup xs, .cls 0] μ = some (.bl false) := by kernel_rfl
theorem isT1 (xs : List D) (μ : Store) : isD [0, 1, 2] [] tabk [.tup xs, .cls 1] μ = some (.bl false) := by kernel_rfl
theorem isT2 (xs : List D) (μ : Store) : isD [0, 1, 2] [] tabk [.tup xs, .cls 2] μ = some (.bl false) := by kernel_rfl
theorem isL0 (xs : List D) (μ : Store) : isD [0, 1, 2] [] tabk [.lst xs, .cls 0] μ = some (.bl false) := by kernel_rfl
theorem isS0 (t : Str) (μ : Store) : isD [0, 1, 2] [] tabk [.str t, .cls 0] μ = some (.bl false) := by kernel_rfl
theorem q_range (a b : Rat) : MG m_Range___eq__ [Gd a b, Gd a b] (.bl true) := by
  unfold m_Range___eq__
  have e1 := f_eq a a
  have e2 := f_eq b b
  rw [decide_eq_true rfl] at e1 e2
  refine MG.rt (SR.ret (GE.andT ?_ (GE.andT ?_ ?_)))
  · repeat' (first | k_memK | exact is11 _ | exact rfl | exact fun _ => rfl | assumption | exact of_decide_eq_true rfl)
  · repeat' (first | k_memK | exact e1 | exact rfl | exact fun _ => rfl | assumption | exact of_decide_eq_true rfl)
  · repeat' (first | k_memK | exact e2 | exact rfl | exact fun _ => rfl | assumption | exact of_decide_eq_true rfl)
theorem q_rangeT (a b : Rat) (xs : List D) : MG m_Range___eq__ [Gd a b, .tup xs] (.bl false) := by
  unfold m_Range___eq__
  refine MG.rt (SR.ret (GE.andF ?_))
  repeat' (first | k_memK | exact isT1 _ | exact rfl | exact fun _ => rfl | assumption | exact of_decide_eq_true rfl)
theorem q_move (z : Int) (p a b : Rat) : MG m_Move___eq__ [Mv z p a b, Mv z p a b] (.bl true) := by
  unfold m_Move___eq__
  have e1 := f_eq a a
  have e2 := f_eq b b
  have e3 := f_ne p p
  have e4 : FG neR (.int z) (.int z) (.bl false) := FG.or1 (FG.op fun μ => by rw [ne_ii, decide_eq_true rfl]; rfl)
  rw [decide_eq_true rfl] at e1 e2 e3
  refine MG.rt ?_
  apply SR.seq
  · repeat' (first | k_memK | exact is22 _ | exact e4 | exact e3 | exact rfl | exact fun _ => rfl | assumption | exact of_decide_eq_true rfl)
  · refine SR.ret (GE.andT ?_ ?_)
    · repeat' (first | k_memK | exact e1 | exact rfl | exact fun _ => rfl | assumption | exact of_decide_eq_true rfl)
    · repeat' (first | k_memK | exact e2 | exact rfl | exact fun _ => rfl | assumption | exact of_decide_eq_true rfl)
theorem q_moveT (z : Int) (p a b : Rat) (xs : List D) : MG m_Move___eq__ [Mv z p a b, .tup xs] (.bl false) := by
  unfold m_Move___eq__
  refine MG.rt ?_
  apply SR.fst
  refine SR.ifY (b := true) (GT.orT (GT.notF (GT.tru ?_))) rfl (SR.ret GE.c)
  repeat' (first | k_memK | exact isT2 _ | exact rfl | exact fun _ => rfl | assumption | exact of_decide_eq_true rfl)
theorem q_ratL (q : Rat) (xs : List D) : MG m_Ratio___eq__ [R q, .lst xs] (.bl false) := by
  unfold m_Ratio___eq__
  refine MG.rt (SR.ret (GE.andF ?_))
  repeat' (first | k_memK | exact isL0 _ | exact rfl | exact fun _ => rfl | assumption | exact of_decide_eq_true rfl)
theorem q_ratS (q : Rat) (t : Str) : MG m_Ratio___eq__ [R q, .str t] (.bl false) := by
  unfold m_Ratio___eq__
  refine MG.rt (SR.ret (GE.andF ?_))
  repeat' (first | k_memK | exact isS0 _ | exact rfl | exact fun _ => rfl | assumption | exact of_decide_eq_true rfl)
theorem notR_of {m : Mir} {ds : List D} {f : Bool} (h : MG m ds (.bl f)) : RO (fun μ => notR (m ds μ)) (.bl (!f)) := fun μ => by
  obtain ⟨k, e⟩ := h μ
  exact ⟨k, by show notR (m ds μ) = _; rw [e]; rfl⟩
theorem u_neRange (a b : Rat) : FG neU (Gd a b) (Gd a b) (.bl false) := FG.or2 (fun μ => rfl) (FG.or1 fun μ => notR_of (q_range a b) μ)
theorem u_eqRangeT (a b : Rat) (xs : List D) : FG eqU (Gd a b) (.tup xs) (.bl false) := FG.or2 (fun μ => rfl) (FG.or1 fun μ => q_rangeT a b xs μ)
theorem u_neMove (z : Int) (p a b : Rat) : FG neU (Mv z p a b) (Mv z p a b) (.bl false) := FG.or2 (fun μ => rfl) (FG.or2 (fun μ => rfl) fun μ => notR_of (q_move z p a b) μ)
theorem u_eqMove (z : Int) (p a b : Rat) : FG eqU (Mv z p a b) (Mv z p a b) (.bl true) := FG.or2 (fun μ => rfl) (FG.or2 (fun μ => rfl) fun μ => q_move z p a b μ)
theorem u_neMoveT (z : Int) (p a b : Rat) (xs : List D) : FG neU (Mv z p a b) (.tup xs) (.bl true) := FG.or2 (fun μ => rfl) (FG.or2 (fun μ => rfl) fun μ => notR_of (q_moveT z p a b xs) μ)
theorem r_neL (q : Rat) (xs : List D) : FG neR (R q) (.lst xs) (.bl true) := FG.or2 (bad_op (neP_ins _ _ _)) fun μ => notR_of (q_ratL q xs) μ
theorem r_eqS (q : Rat) (t : Str) : FG eqR (R q) (.str t) (.bl false) := FG.or2 (bad_op (eqP_ins _ _ _)) fun μ => q_ratS q t μ
theorem deq_R (k : Nat) (a b : Rat) : deq 0 qR k (R a) (R b) = some (decide (a = b)) := by
  obtain ⟨k0, e⟩ := g_eqm a b []
  have e2 : qR (rf a) (rf b) = some (a.num == b.num && (a.den : Int) == (b.den : Int)) := rfl
  rw [leafR.run _ _ _ [] e2] at e
  have e3 : (a.num == b.num && (a.den : Int) == (b.den : Int)) = decide (a = b) := by
    injection e with e
    injection e
  rw [← e3, ← e2]
  unfold deq
  rfl
theorem deq_sc {k : Nat} {x y : D} {u v : V} (h1 : scV x = some u) (h2 : scV y = some v) : deq 0 qR k x y = some (eqV u v) := by
  unfold deq
  rw [h1, h2]
theorem deq_bl (k : Nat) (f g : Bool) : deq 0 qR k (.bl f) (.bl g) = some (f == g) := deq_sc (u := .bl f) (v := .bl g) rfl rfl
theorem deq_ii (k : Nat) (i j : Int) : deq 0 qR k (.int i) (.int j) = some (i == j) := deq_sc (u := .int i) (v := .int j) rfl rfl
theorem deq_tup {k : Nat} {xs ys : List D} (h : deqL (deq 0 qR k) xs ys = some true) : deq 0 qR (k + 1) (.tup xs) (.tup ys) = some true := by
  unfold deq
  show (if deqL (deq 0 qR k) xs ys = some true then some true else none) = _
  rw [if_pos h]
theorem deq_cut (k : Nat) (q : Rat) (f : Bool) : deq 0 qR (k + 1) (Ct q f) (Ct q f) = some true := by
  refine deq_tup ?_
  simp only [deqL, deq_R, decide_true, deq_bl, beq_self_eq_true]
theorem t_ne {xs : List D} (h0 : ∀ μ, neP (.tup xs) (.tup xs) μ = none) (h : deqL (deq 0 qR 2) xs xs = some true) : FG neT (.tup xs) (.tup xs) (.bl false) := FG.or2 (bad_or (bad_op h0) fun μ => rfl) (RO.pure fun μ => by
  show ofO ((deqL (deq 0 qR 2) xs xs).map fun b => D.bl (b != true)) μ = _
  rw [h]
  rfl)
theorem t_neL {xs : List D} (h0 : ∀ μ, neP (.lst xs) (.lst xs) μ = none) (h : deqL (deq 0 qR 2) xs xs = some true) : FG neT (.lst xs) (.lst xs) (.bl false) := FG.or2 (bad_or (bad_op h0) fun μ => rfl) (RO.pure fun μ => by
  show ofO ((deqL (deq 0 qR 2) xs xs).map fun b => D.bl (b != true)) μ = _
  rw [h]
  rfl)
theorem t_eqL {xs : List D} (h0 : ∀ μ, eqP (.lst xs) (.lst xs) μ = none) (h : deqL (deq 0 qR 2) xs xs = some true) : FG eqT (.lst xs) (.lst xs) (.bl true) := FG.or2 (bad_or (bad_op h0) fun μ => rfl) (RO.pure fun μ => by
  show ofO ((deqL (deq 0 qR 2) xs xs).map fun b => D.bl (b != false)) μ = _
  rw [h]
  rfl)
theorem t_eq {xs ys : List D} (h0 : ∀ μ, eqP (.tup xs) (.tup ys) μ = none) (h : deqL (deq 0 qR 2) xs ys = some f) : FG eqT (.tup xs) (.tup ys) (.bl f) := FG.or2 (bad_or (bad_op h0) fun μ => rfl) (RO.pure fun μ => by
  show ofO ((deqL (deq 0 qR 2) xs ys).map fun b => D.bl (b != false)) μ = _
  rw [h]
  cases f <;> rfl)
theorem t_neCut (q : Rat) (f : Bool) : FG neT (Ct q f) (Ct q f) (.bl false) := t_ne (fun μ => rfl) (by simp only [deqL, deq_R, decide_true, deq_bl, beq_self_eq_true])
theorem t_neR (q : Rat) : FG neT (R q) (R q) (.bl false) := FG.or1 (RO.eq (f_ne q q) (by simp))
theorem t_neOut (a b : Rat) : FG neT (.tup [Ct a false, Ct b true]) (.tup [Ct a false, Ct b true]) (.bl false) := t_ne (fun μ => rfl) (by simp only [deqL, deq_cut])
theorem t_eqCut (a b : Rat) (f g : Bool) : FG eqT (Ct a f) (Ct b g) (.bl (decide (a = b) && (f == g))) := t_eq (fun μ => rfl) (by
  simp only [deqL, deq_R, deq_bl]
  by_cases h : a = b
  · simp only [h, decide_true, Bool.true_and]
    cases f <;> cases g <;> rfl
  · simp only [decide_eq_false h, Bool.false_and]
    rfl)
theorem u_of {x y d : D} (h : FG neT x y d) : FG neU x y d := FG.or1 h
theorem u_ofE {x y d : D} (h : FG eqT x y d) : FG eqU x y d := FG.or1 h
end
end K18

set_option Elab.async false
set_option linter.all false
set_option autoImplicit false
set_option maxRecDepth 100000
set_option maxHeartbeats 4000000
/-! k18: the mathematics: moves -/
namespace K18
open PySem L2 DL
local macro_rules | `(tactic| k_memK) => `(tactic| first | with_reducible exact GE.c | with_reducible exact GA.nil | ((with_reducible apply GE.var); exact rfl) | with_reducible apply GA.cons | with_reducible apply GE.bin | with_reducible apply GE.two | with_reducible apply GE.one | with_reducible apply GE.un | with_reducible apply GE.blt | with_reducible apply GE.lst | with_reducible apply GE.tup | with_reducible apply GE.call | with_reducible apply GE.makeL | with_reducible apply GE.meth | with_reducible apply GE.fld | with_reducible apply GE.prop | with_reducible apply GE.cmeth | with_reducible apply GE.cmethS | with_reducible apply GE.not | with_reducible apply GE.andB | with_reducible apply GE.orB | with_reducible apply GT.isB | with_reducible apply GT.tru | with_reducible apply GT.not | with_reducible apply GT.notF | with_reducible apply GT.notT | with_reducible apply GE.notF | with_reducible apply GE.notT | with_reducible apply GT.orB | with_reducible apply GT.andB | with_reducible exact SN.next | with_reducible apply SN.set | with_reducible apply SN.drop | with_reducible apply SR.ret | with_reducible apply SN.par2 | with_reducible apply SN.par3 | with_reducible apply SN.seq | with_reducible apply SR.seq | with_reducible apply SN.ifN | with_reducible apply SN.asg | with_reducible apply SN.for | with_reducible apply GI.seq | with_reducible apply FN.cons | with_reducible exact FN.nil | with_reducible apply SI.seq | with_reducible apply SI.fld | with_reducible apply SI.of)
def mn (b y : Rat) : Rat := if y < b then y else b
def mx (a x : Rat) : Rat := if a < x then x else a
def hold (a b x : Rat) : Rat := mn b (mx a x)
def fr (z : Int) (p x : Rat) : Rat := (x + p) / (z : Rat)
def at_ (z : Int) (p a b x : Rat) : Rat := hold a b (fr z p x)
section
variable {a b c d x y p q r s : Rat} {i j z w : Int} {f g : Bool} {n m l k : Nat}
theorem not_lt_self (a : Rat) : ¬ a < a := by grind
theorem g_extL (ha : Sz n a) (hb : Sz m b) (h : 2 * n + m ≤ 8000) : MG m_extreme_of [.tup [R a, R b], .bl true] (R (mn a b)) := by
  unfold m_extreme_of
  by_cases hlt : b < a
  · rw [show mn a b = b from if_pos hlt]
    refine MG.rt ?_
    apply SR.seq
    · repeat' (first | k_memK | exact len2 _ _ | exact eq_ii 2 0 | exact rfl | exact fun _ => rfl | assumption | exact of_decide_eq_true rfl)
    apply SR.seq
    · repeat' (first | k_memK | exact g_of a | exact rfl | exact fun _ => rfl | assumption | exact of_decide_eq_true rfl)
    apply SR.seq
    · apply SN.for
      · repeat' (first | k_memK | exact rfl | exact fun _ => rfl | assumption | exact of_decide_eq_true rfl)
      · apply FN.cons
        · exact fun _ => rfl
        · apply SN.seq
          · repeat' (first | k_memK | exact g_of a | exact rfl | exact fun _ => rfl | assumption | exact of_decide_eq_true rfl)
          · apply SN.ifN (b := decide (a < a))
            · refine GT.ifT ?_ (GT.tru ?_)
              · repeat' (first | k_memK | exact rfl | exact fun _ => rfl | assumption | exact of_decide_eq_true rfl)
              · repeat' (first | k_memK | exact g_less ha ha (by omega) | exact rfl | exact fun _ => rfl | assumption | exact of_decide_eq_true rfl)
            · exact decide_eq_false (not_lt_self a)
            · exact SN.next
        apply FN.cons
        · exact fun _ => rfl
        · apply SN.seq
          · repeat' (first | k_memK | exact g_of b | exact rfl | exact fun _ => rfl | assumption | exact of_decide_eq_true rfl)
          · apply SN.ifY (b := decide (b < a))
            · refine GT.ifT ?_ (GT.tru ?_)
              · repeat' (first | k_memK | exact rfl | exact fun _ => rfl | assumption | exact of_decide_eq_true rfl)
              · repeat' (first | k_memK | exact g_less hb ha (by omega) | exact rfl | exact fun _ => rfl | assumption | exact of_decide_eq_true rfl)
            · exact decide_eq_true hlt
            · repeat' (first | k_memK | exact rfl | exact fun _ => rfl | assumption | exact of_decide_eq_true rfl)
        exact FN.nil
    · repeat' (first | k_memK | exact rfl | exact fun _ => rfl | assumption | exact of_decide_eq_true rfl)
  · rw [show mn a b = a from if_neg hlt]
    refine MG.rt ?_
    apply SR.seq
    · repeat' (first | k_memK | exact len2 _ _ | exact eq_ii 2 0 | exact rfl | exact fun _ => rfl | assumption | exact of_decide_eq_true rfl)
    apply SR.seq
    · repeat' (first | k_memK | exact g_of a | exact rfl | exact fun _ => rfl | assumption | exact of_decide_eq_true rfl)
    apply SR.seq
    · apply SN.for
      · repeat' (first | k_memK | exact rfl | exact fun _ => rfl | assumption | exact of_decide_eq_true rfl)
      · apply FN.cons
        · exact fun _ => rfl
        · apply SN.seq
          · repeat' (first | k_memK | exact g_of a | exact rfl | exact fun _ => rfl | assumption | exact of_decide_eq_true rfl)
          · apply SN.ifN (b := decide (a < a))
            · refine GT.ifT ?_ (GT.tru ?_)
              · repeat' (first | k_memK | exact rfl | exact fun _ => rfl | assumption | exact of_decide_eq_true rfl)
              · repeat' (first | k_memK | exact g_less ha ha (by omega) | exact rfl | exact fun _ => rfl | assumption | exact of_decide_eq_true rfl)
            · exact decide_eq_false (not_lt_self a)
            · exact SN.next
        apply FN.cons
        · exact fun _ => rfl
        · apply SN.seq
          · repeat' (first | k_memK | exact g_of b | exact rfl | exact fun _ => rfl | assumption | exact of_decide_eq_true rfl)
          · apply SN.ifN (b := decide (b < a))
            · refine GT.ifT ?_ (GT.tru ?_)
              · repeat' (first | k_memK | exact rfl | exact fun _ => rfl | assumption | exact of_decide_eq_true rfl)
              · repeat' (first | k_memK | exact g_less hb ha (by omega) | exact rfl | exact fun _ => rfl | assumption | exact of_decide_eq_true rfl)
            · exact decide_eq_false hlt
            · repeat' (first | k_memK | exact rfl | exact fun _ => rfl | assumption | exact of_decide_eq_true rfl)
        exact FN.nil
    · repeat' (first | k_memK | exact rfl | exact fun _ => rfl | assumption | exact of_decide_eq_true rfl)
theorem g_extG (ha : Sz n a) (hb : Sz m b) (h : 2 * n + m ≤ 8000) : MG m_extreme_of [.tup [R a, R b], .bl false] (R (mx a b)) := by
  unfold m_extreme_of
  by_cases hlt : a < b
  · rw [show mx a b = b from if_pos hlt]
    refine MG.rt ?_
    apply SR.seq
    · repeat' (first | k_memK | exact len2 _ _ | exact eq_ii 2 0 | exact rfl | exact fun _ => rfl | assumption | exact of_decide_eq_true rfl)
    apply SR.seq
    · repeat' (first | k_memK | exact g_of a | exact rfl | exact fun _ => rfl | assumption | exact of_decide_eq_true rfl)
    apply SR.seq
    · apply SN.for
      · repeat' (first | k_memK | exact rfl | exact fun _ => rfl | assumption | exact of_decide_eq_true rfl)
      · apply FN.cons
        · exact fun _ => rfl
        · apply SN.seq
          · repeat' (first | k_memK | exact g_of a | exact rfl | exact fun _ => rfl | assumption | exact of_decide_eq_true rfl)
          · apply SN.ifN (b := decide (a < a))
            · refine GT.ifF ?_ (GT.tru ?_)
              · repeat' (first | k_memK | exact rfl | exact fun _ => rfl | assumption | exact of_decide_eq_true rfl)
              · repeat' (first | k_memK | exact g_less ha ha (by omega) | exact rfl | exact fun _ => rfl | assumption | exact of_decide_eq_true rfl)
            · exact decide_eq_false (not_lt_self a)
            · exact SN.next
        apply FN.cons
        · exact fun _ => rfl
        · apply SN.seq
          · repeat' (first | k_memK | exact g_of b | exact rfl | exact fun _ => rfl | assumption | exact of_decide_eq_true rfl)
          · apply SN.ifY (b := decide (a < b))
            · refine GT.ifF ?_ (GT.tru ?_)
              · repeat' (first | k_memK | exact rfl | exact fun _ => rfl | assumption | exact of_decide_eq_true rfl)
              · repeat' (first | k_memK | exact g_less ha hb (by omega) | exact rfl | exact fun _ => rfl | assumption | exact of_decide_eq_true rfl)
            · exact decide_eq_true hlt
            · repeat' (first | k_memK | exact rfl | exact fun _ => rfl | assumption | exact of_decide_eq_true rfl)
        exact FN.nil
    · repeat' (first | k_memK | exact rfl | exact fun _ => rfl | assumption | exact of_decide_eq_true rfl)
  · rw [show mx a b = a from if_neg hlt]
    refine MG.rt ?_
    apply SR.seq
    · repeat' (first | k_memK | exact len2 _ _ | exact eq_ii 2 0 | exact rfl | exact fun _ => rfl | assumption | exact of_decide_eq_true rfl)
    apply SR.seq
    · repeat' (first | k_memK | exact g_of a | exact rfl | exact fun _ => rfl | assumption | exact of_decide_eq_true rfl)
    apply SR.seq
    · apply SN.for
      · repeat' (first | k_memK | exact rfl | exact fun _ => rfl | assumption | exact of_decide_eq_true rfl)
      · apply FN.cons
        · exact fun _ => rfl
        · apply SN.seq
          · repeat' (first | k_memK | exact g_of a | exact rfl | exact fun _ => rfl | assumption | exact of_decide_eq_true rfl)
          · apply SN.ifN (b := decide (a < a))
            · refine GT.ifF ?_ (GT.tru ?_)
              · repeat' (first | k_memK | exact rfl | exact fun _ => rfl | assumption | exact of_decide_eq_true rfl)
              · repeat' (first | k_memK | exact g_less ha ha (by omega) | exact rfl | exact fun _ => rfl | assumption | exact of_decide_eq_true rfl)
            · exact decide_eq_false (not_lt_self a)
            · exact SN.next
        apply FN.cons
        · exact fun _ => rfl
        · apply SN.seq
          · repeat' (first | k_memK | exact g_of b | exact rfl | exact fun _ => rfl | assumption | exact of_decide_eq_true rfl)
          · apply SN.ifN (b := decide (a < b))
            · refine GT.ifF ?_ (GT.tru ?_)
              · repeat' (first | k_memK | exact rfl | exact fun _ => rfl | assumption | exact of_decide_eq_true rfl)
              · repeat' (first | k_memK | exact g_less ha hb (by omega) | exact rfl | exact fun _ => rfl | assumption | exact of_decide_eq_true rfl)
            · exact decide_eq_false hlt
            · repeat' (first | k_memK | exact rfl | exact fun _ => rfl | assumption | exact of_decide_eq_true rfl)
        exact FN.nil
    · repeat' (first | k_memK | exact rfl | exact fun _ => rfl | assumption | exact of_decide_eq_true rfl)
theorem g_least (ha : Sz n a) (hb : Sz m b) (h : 2 * n + m ≤ 8000) : MG m_Ratio_least [.cls 0, .tup [R a, R b]] (R (mn a b)) := by
  unfold m_Ratio_least
  refine MG.rt ?_
  repeat' (first | k_memK | exact g_extL ha hb h | exact rfl | exact fun _ => rfl | assumption | exact of_decide_eq_true rfl)
theorem g_greatest (ha : Sz n a) (hb : Sz m b) (h : 2 * n + m ≤ 8000) : MG m_Ratio_greatest [.cls 0, .tup [R a, R b]] (R (mx a b)) := by
  unfold m_Ratio_greatest
  refine MG.rt ?_
  repeat' (first | k_memK | exact g_extG ha hb h | exact rfl | exact fun _ => rfl | assumption | exact of_decide_eq_true rfl)
theorem sz_mx (ha : Sz n a) (hb : Sz m b) : Sz (n + m) (mx a b) := by
  unfold mx
  split
  · exact hb.up (by omega)
  · exact ha.up (by omega)
theorem sz_mn (ha : Sz n a) (hb : Sz m b) : Sz (n + m) (mn a b) := by
  unfold mn
  split
  · exact hb.up (by omega)
  · exact ha.up (by omega)
theorem g_held (ha : Sz n a) (hb : Sz n b) (hx : Sz m x) (h : 4 * n + 2 * m ≤ 8000) : MG m_Move_held [Mv z p a b, R x] (R (hold a b x)) := by
  unfold m_Move_held
  refine MG.rt ?_
  unfold hold
  repeat' (first | k_memK | exact g_greatest ha hx (by omega) | exact g_least hb (sz_mx ha hx) (by omega) | exact (by decide : (2 : Nat) < 1000) | exact rfl | exact fun _ => rfl | assumption | exact of_decide_eq_true rfl)
theorem hold_or (a b x : Rat) : hold a b x = x ∨ hold a b x = a ∨ hold a b x = b := by
  unfold hold mn mx
  by_cases h1 : a < x
  · rw [if_pos h1]
    by_cases h2 : x < b
    · rw [if_pos h2]; exact .inl rfl
    · rw [if_neg h2]; exact .inr (.inr rfl)
  · rw [if_neg h1]
    by_cases h2 : a < b
    · rw [if_pos h2]; exact .inr (.inl rfl)
    · rw [if_neg h2]; exact .inr (.inr rfl)
theorem sz_hold (ha : Sz n a) (hb : Sz n b) (hx : Sz m x) (h : n ≤ m) : Sz m (hold a b x) := by
  rcases hold_or a b x with e | e | e <;> rw [e]
  · exact hx
  · exact ha.up h
  · exact hb.up h
theorem g_free (hp : Sz n p) (hz : z.natAbs < 2 ^ l) (hx : Sz m x) (h : n + m + 1 + l ≤ 8000) (h0 : z ≠ 0) (hl : 0 < l) : MG m_Move_free [Mv z p a b, R x] (R (fr z p x)) := by
  unfold m_Move_free
  refine MG.rt ?_
  unfold fr
  repeat' (first | k_memK | exact g_of x | exact f_add hx hp (by omega) | exact g_overI (sz_add hx hp) hz (by omega) hl h0 | exact rfl | exact fun _ => rfl | assumption | exact of_decide_eq_true rfl)
theorem sz_fr (hp : Sz n p) (hz : z.natAbs < 2 ^ l) (hx : Sz m x) (h0 : z ≠ 0) (hl : 0 < l) : Sz (m + n + 1 + l) (fr z p x) := sz_over (sz_add hx hp) (sz_int hz hl) (int_ne h0)
/-- a move whose numbers are small -/
structure Mo (n l : Nat) (z : Int) (p a b : Rat) : Prop where
  hp : Sz n p
  ha : Sz n a
  hb : Sz n b
  hz : z.natAbs < 2 ^ l
  z1 : 1 ≤ z
  ab : ¬ b < a
  l0 : 0 < l
theorem Mo.z0 (h : Mo n l z p a b) : z ≠ 0 := by
  have := h.z1
  omega
theorem g_at (M : Mo n l z p a b) (hx : Sz m x) (h : 6 * n + 2 * m + 2 * l + 2 ≤ 8000) : MG m_Move_at [Mv z p a b, R x] (R (at_ z p a b x)) := by
  unfold m_Move_at
  refine MG.rt ?_
  unfold at_
  repeat' (first | k_memK | exact g_rnR x | exact g_free M.hp M.hz hx (by omega) M.z0 M.l0 | exact g_held M.ha M.hb (sz_fr M.hp M.hz hx M.z0 M.l0) (by omega) | exact rfl | exact fun _ => rfl | assumption | exact of_decide_eq_true rfl)
theorem sz_at (M : Mo n l z p a b) (hx : Sz m x) : Sz (m + n + 1 + l) (at_ z p a b x) := sz_hold M.ha M.hb (sz_fr M.hp M.hz hx M.z0 M.l0) (by omega)
/-! ### a move made -/
/-- a number as it may be passed -/
inductive Num : D → Rat → Prop
  | rat (q : Rat) : Num (R q) q
  | int (i : Int) : Num (.int i) (i : Rat)
theorem Num.of {x : D} {q : Rat} (h : Num x q) : MG m_Ratio_of [.cls 0, x] (R q) := match h with
  | .rat q => g_of q
  | .int i => g_ofI i
theorem Num.num {x : D} {q : Rat} (h : Num x q) : MG m_is_number [x] (.bl true) := match h with
  | .rat q => g_numR q
  | .int i => g_numI i
theorem g_minit {x1 x2 x3 : D} (M : Mo n l z p a b) (h : 2 * n ≤ 8000) (n1 : Num x1 p) (n2 : Num x2 a) (n3 : Num x3 b) : MI m_Move___init__ 2 (fun s => [s, .int z, x1, x2, x3]) [("own_divisor", .int z), ("own_plus", R p), ("own_low", R a), ("own_high", R b)] := by
  unfold m_Move___init__
  have hz : ¬ z < 1 := by have := M.z1; omega
  refine MI.of fun n => ?_
  apply Exists.intro
  apply SI.seq
  · repeat' (first | k_memK | exact g_int z | exact lt_ii z 1 | exact by rw [decide_eq_false hz]; rfl | exact rfl | exact fun _ => rfl | assumption | exact of_decide_eq_true rfl)
  apply SI.seq
  · apply SI.of
    apply SN.for
    · repeat' (first | k_memK | exact by rw [sizeLine_eq]; decide | exact rfl | exact fun _ => rfl | assumption | exact of_decide_eq_true rfl)
    · repeat' (first | k_memK | exact n1.num | exact n2.num | exact n3.num | exact rfl | exact fun _ => rfl | assumption | exact of_decide_eq_true rfl)
  · repeat' (first | k_memK | exact n1.of | exact n2.of | exact n3.of | exact g_less M.hb M.ha (by omega) | exact decide_eq_false M.ab | exact rfl | exact fun _ => rfl | assumption | exact of_decide_eq_true rfl)
end
end K18

set_option Elab.async false
set_option linter.all false
set_option autoImplicit false
set_option maxRecDepth 100000
set_option maxHeartbeats 4000000
/-! k18: the mathematics: moves behind one another, cuts led back, forms, images, limits -/
namespace K18
open PySem L2 DL
local macro_rules | `(tactic| k_memK) => `(tactic| first | with_reducible exact GE.c | with_reducible exact GA.nil | ((with_reducible apply GE.var); exact rfl) | with_reducible apply GA.cons | with_reducible apply GE.bin | with_reducible apply GE.two | with_reducible apply GE.one | with_reducible apply GE.un | with_reducible apply GE.blt | with_reducible apply GE.lst | with_reducible apply GE.tup | with_reducible apply GE.call | with_reducible apply GE.makeL | with_reducible apply GE.meth | with_reducible apply GE.fld | with_reducible apply GE.prop | with_reducible apply GE.cmeth | with_reducible apply GE.cmethS | with_reducible apply GE.not | with_reducible apply GE.andB | with_reducible apply GE.orB | with_reducible apply GT.isB | with_reducible apply GT.tru | with_reducible apply GT.not | with_reducible apply GT.notF | with_reducible apply GT.notT | with_reducible apply GE.notF | with_reducible apply GE.notT | with_reducible apply GT.orB | with_reducible apply GT.andB | with_reducible exact SN.next | with_reducible apply SN.set | with_reducible apply SN.drop | with_reducible apply SR.ret | with_reducible apply SN.par2 | with_reducible apply SN.par3 | with_reducible apply SN.seq | with_reducible apply SR.seq | with_reducible apply SN.ifN | with_reducible apply SN.asg | with_reducible apply SN.for | with_reducible apply GI.seq | with_reducible apply FN.cons | with_reducible exact FN.nil | with_reducible apply SI.seq | with_reducible apply SI.fld | with_reducible apply SI.of)
section
variable {a b c d x y p q r s lo hi a2 b2 p2 : Rat} {i j z w : Int} {f g : Bool} {n m l k : Nat}
/-! ### order -/
theorem hold_mono (h : ¬ y < x) (hab : ¬ b < a) : ¬ hold a b y < hold a b x := by
  unfold hold mn mx
  grind
theorem hold_in (hab : ¬ b < a) : ¬ hold a b x < a ∧ ¬ b < hold a b x := by
  unfold hold mn mx
  grind
theorem hold_id (h1 : ¬ x < a) (h2 : ¬ b < x) : hold a b x = x := by
  unfold hold mn mx
  grind
theorem z_pos (h : 1 ≤ z) : (0 : Rat) < (z : Rat) := by
  have : (0 : Int) < z := by omega
  exact_mod_cast this
theorem div_mono (hz : 0 < c) (h : ¬ y < x) : ¬ y / c < x / c := by
  intro e
  have e1 : x / c * c = x := by grind
  have e2 : y / c * c = y := by grind
  have := Rat.mul_lt_mul_of_pos_left e hz
  grind
theorem fr_mono (hz : 1 ≤ z) (h : ¬ y < x) : ¬ fr z p y < fr z p x := div_mono (z_pos hz) (by grind)
theorem at_mono (M : Mo n l z p a b) (h : ¬ y < x) : ¬ at_ z p a b y < at_ z p a b x := hold_mono (fr_mono M.z1 h) M.ab
/-! ### then -/
theorem is22' (z : Int) (p a b : Rat) : MG m_require_move [Mv z p a b] .non := by
  unfold m_require_move
  apply MG.nx
  repeat' (first | k_memK | exact is22 _ | exact rfl | exact fun _ => rfl | assumption | exact of_decide_eq_true rfl)
theorem is11' (a b : Rat) : MG m_require_range [Gd a b] .non := by
  unfold m_require_range
  apply MG.nx
  repeat' (first | k_memK | exact is11 _ | exact rfl | exact fun _ => rfl | assumption | exact of_decide_eq_true rfl)
theorem GE.mkM {δs : DenA} {ρ : DL.Env} {x1 x2 x3 : D} (M : Mo n l z p a b) (h : 2 * n ≤ 8000) (n1 : Num x1 p) (n2 : Num x2 a) (n3 : Num x3 b) (h1 : GA δs ρ [.int z, x1, x2, x3]) : GE (dMake 2 4 0 gk_Move___init___4 m_Move___init__ δs dNil) ρ (Mv z p a b) := GE.make h1 GA.nil rfl rfl (g_minit M h n1 n2 n3)
theorem mo_then (M : Mo n l z p a b) (M2 : Mo m k w p2 a2 b2) : Mo (n + m + k + l + 1) (l + k) (z * w) (p + p2 * (z : Rat)) (at_ w p2 a2 b2 a) (at_ w p2 a2 b2 b) :=
  ⟨(sz_add M.hp (sz_mul M2.hp (sz_int M.hz M.l0))).up (by omega), (sz_at M2 M.ha).up (by omega), (sz_at M2 M.hb).up (by omega), mul_lt M.hz M2.hz, by
    have := M.z1
    have := M2.z1
    have e : 1 * 1 ≤ z * w := Int.mul_le_mul (by omega) (by omega) (by omega) (by omega)
    omega, at_mono M2 M.ab, by have := M.l0; omega⟩
theorem g_then (M : Mo n l z p a b) (M2 : Mo m k w p2 a2 b2) (h : 8 * n + 8 * m + 8 * k + 8 * l + 8 ≤ 8000) : MG m_Move_then [Mv z p a b, Mv w p2 a2 b2] (Mv (z * w) (p + p2 * (z : Rat)) (at_ w p2 a2 b2 a) (at_ w p2 a2 b2 b)) := by
  unfold m_Move_then
  refine MG.rt ?_
  apply SR.seq
  · repeat' (first | k_memK | exact is22' _ _ _ _ | exact rfl | exact fun _ => rfl | assumption | exact of_decide_eq_true rfl)
  apply SR.seq
  · repeat' (first | k_memK | exact g_pl _ _ _ _ | exact f_mulI M2.hp M.hz (by omega) M.l0 | exact f_add M.hp (sz_mul M2.hp (sz_int M.hz M.l0)) (by omega) | exact rfl | exact fun _ => rfl | assumption | exact of_decide_eq_true rfl)
  · refine SR.ret (GE.mkM (mo_then M M2) (by omega) (.rat _) (.rat _) (.rat _) ?_)
    repeat' (first | k_memK | exact g_dv _ _ _ _ | exact f_mulII (mulOk_of M.hz M2.hz (by omega)) | exact g_at M2 M.ha (by omega) | exact g_at M2 M.hb (by omega) | exact rfl | exact fun _ => rfl | assumption | exact of_decide_eq_true rfl)
/-! ### back -/
theorem g_back (M : Mo n l z p a b) (hlo : Sz m lo) (hhi : Sz m hi) (hc : Sz m c) (h : 8 * n + 8 * m + 8 * l + 8 ≤ 8000) : ∃ q g, MG m_Move_back [Mv z p a b, Ct c f, Gd lo hi] (Ct q g) := by
  unfold m_Move_back
  have h1 := g_beyond (f := f) (sz_at M hlo) hc (by omega)
  have h2 := g_beyond (f := f) (sz_at M hhi) hc (by omega)
  have hs : Sz (m + l + n + 1) (c * (z : Rat) - p) := sz_sub (sz_mul hc (sz_int M.hz M.l0)) M.hp
  obtain ⟨q, g, hf⟩ := g_fit (f := f) hlo hhi hs (by omega)
  cases e1 : byd (at_ z p a b lo) c f
  · rw [e1] at h1
    cases e2 : byd (at_ z p a b hi) c f
    · rw [e2] at h2
      refine ⟨hi, true, MG.rt ?_⟩
      apply SR.seq
      · repeat' (first | k_memK | exact g_rcut c f | exact rfl | exact fun _ => rfl | assumption | exact of_decide_eq_true rfl)
      apply SR.seq
      · repeat' (first | k_memK | exact is11' lo hi | exact rfl | exact fun _ => rfl | assumption | exact of_decide_eq_true rfl)
      apply SR.seq
      · repeat' (first | k_memK | exact g_outer lo hi | exact rfl | exact fun _ => rfl | assumption | exact of_decide_eq_true rfl)
      apply SR.seq
      · repeat' (first | k_memK | exact g_low1 _ _ | exact g_at M hlo (by omega) | exact h1 | exact rfl | exact fun _ => rfl | assumption | exact of_decide_eq_true rfl)
      apply SR.fst
      refine SR.ifY (b := true) (GT.notF (GT.tru ?_)) rfl (SR.ret ?_)
      · repeat' (first | k_memK | exact g_high1 _ _ | exact g_at M hhi (by omega) | exact h2 | exact rfl | exact fun _ => rfl | assumption | exact of_decide_eq_true rfl)
      · repeat' (first | k_memK | exact rfl | exact fun _ => rfl | assumption | exact of_decide_eq_true rfl)
    · rw [e2] at h2
      refine ⟨q, g, MG.rt ?_⟩
      apply SR.seq
      · repeat' (first | k_memK | exact g_rcut c f | exact rfl | exact fun _ => rfl | assumption | exact of_decide_eq_true rfl)
      apply SR.seq
      · repeat' (first | k_memK | exact is11' lo hi | exact rfl | exact fun _ => rfl | assumption | exact of_decide_eq_true rfl)
      apply SR.seq
      · repeat' (first | k_memK | exact g_outer lo hi | exact rfl | exact fun _ => rfl | assumption | exact of_decide_eq_true rfl)
      apply SR.seq
      · repeat' (first | k_memK | exact g_low1 _ _ | exact g_at M hlo (by omega) | exact h1 | exact rfl | exact fun _ => rfl | assumption | exact of_decide_eq_true rfl)
      apply SR.seq
      · repeat' (first | k_memK | exact g_high1 _ _ | exact g_at M hhi (by omega) | exact h2 | exact rfl | exact fun _ => rfl | assumption | exact of_decide_eq_true rfl)
      · repeat' (first | k_memK | exact g_of c | exact f_mulI hc M.hz (by omega) M.l0 | exact f_sub (sz_mul hc (sz_int M.hz M.l0)) M.hp (by omega) | exact hf | exact rfl | exact fun _ => rfl | assumption | exact of_decide_eq_true rfl)
  · rw [e1] at h1
    refine ⟨lo, false, MG.rt ?_⟩
    apply SR.seq
    · repeat' (first | k_memK | exact g_rcut c f | exact rfl | exact fun _ => rfl | assumption | exact of_decide_eq_true rfl)
    apply SR.seq
    · repeat' (first | k_memK | exact is11' lo hi | exact rfl | exact fun _ => rfl | assumption | exact of_decide_eq_true rfl)
    apply SR.seq
    · repeat' (first | k_memK | exact g_outer lo hi | exact rfl | exact fun _ => rfl | assumption | exact of_decide_eq_true rfl)
    apply SR.fst
    apply SR.ifY (b := true)
    · repeat' (first | k_memK | exact g_low1 _ _ | exact g_at M hlo (by omega) | exact h1 | exact rfl | exact fun _ => rfl | assumption | exact of_decide_eq_true rfl)
    · rfl
    · repeat' (first | k_memK | exact rfl | exact fun _ => rfl | assumption | exact of_decide_eq_true rfl)
/-! ### form -/
theorem g_form (M : Mo n l z p a b) (hlo : Sz m lo) (hhi : Sz m hi) (h : 8 * n + 8 * m + 8 * l + 8 ≤ 8000) :
    MG m_Move_form [Mv z p a b, Gd lo hi] (if at_ z p a b lo = at_ z p a b hi then .tup [.non, .non, R (at_ z p a b lo), R (at_ z p a b hi)] else .tup [.int z, R p, R (at_ z p a b lo), R (at_ z p a b hi)]) := by
  unfold m_Move_form
  by_cases he : at_ z p a b lo = at_ z p a b hi
  · rw [if_pos he]
    refine MG.rt ?_
    apply SR.seq
    · repeat' (first | k_memK | exact is11' lo hi | exact rfl | exact fun _ => rfl | assumption | exact of_decide_eq_true rfl)
    apply SR.seq
    · repeat' (first | k_memK | exact g_low1 _ _ | exact g_high1 _ _ | exact g_at M hlo (by omega) | exact g_at M hhi (by omega) | exact rfl | exact fun _ => rfl | assumption | exact of_decide_eq_true rfl)
    apply SR.seq
    · apply SN.asg (d := .tup [.non, .non])
      · apply GE.ifY (b := decide (at_ z p a b lo = at_ z p a b hi))
        · repeat' (first | k_memK | exact f_eq _ _ | exact rfl | exact fun _ => rfl | assumption | exact of_decide_eq_true rfl)
        · exact decide_eq_true he
        · repeat' (first | k_memK | exact by rw [sizeLine_eq]; decide | exact rfl | exact fun _ => rfl | assumption | exact of_decide_eq_true rfl)
      · exact fun _ => rfl
    · repeat' (first | k_memK | exact by rw [sizeLine_eq]; decide | exact rfl | exact fun _ => rfl | assumption | exact of_decide_eq_true rfl)
  · rw [if_neg he]
    refine MG.rt ?_
    apply SR.seq
    · repeat' (first | k_memK | exact is11' lo hi | exact rfl | exact fun _ => rfl | assumption | exact of_decide_eq_true rfl)
    apply SR.seq
    · repeat' (first | k_memK | exact g_low1 _ _ | exact g_high1 _ _ | exact g_at M hlo (by omega) | exact g_at M hhi (by omega) | exact rfl | exact fun _ => rfl | assumption | exact of_decide_eq_true rfl)
    apply SR.seq
    · apply SN.asg (d := .tup [.int z, R p])
      · apply GE.ifN (b := decide (at_ z p a b lo = at_ z p a b hi))
        · repeat' (first | k_memK | exact f_eq _ _ | exact rfl | exact fun _ => rfl | assumption | exact of_decide_eq_true rfl)
        · exact decide_eq_false he
        · repeat' (first | k_memK | exact by rw [sizeLine_eq]; decide | exact rfl | exact fun _ => rfl | assumption | exact of_decide_eq_true rfl)
      · exact fun _ => rfl
    · repeat' (first | k_memK | exact by rw [sizeLine_eq]; decide | exact rfl | exact fun _ => rfl | assumption | exact of_decide_eq_true rfl)
theorem fm_shape (M : Mo n l z p a b) (lo hi : Rat) : ∃ u v s t, (if at_ z p a b lo = at_ z p a b hi then D.tup [.non, .non, R (at_ z p a b lo), R (at_ z p a b hi)] else .tup [.int z, R p, R (at_ z p a b lo), R (at_ z p a b hi)]) = .tup [u, v, R s, R t] ∧ ((u = .non ∧ v = .non) ∨ ∃ z p, u = .int z ∧ v = R p) := by
  by_cases he : at_ z p a b lo = at_ z p a b hi
  · rw [if_pos he]
    exact ⟨_, _, _, _, rfl, .inl ⟨rfl, rfl⟩⟩
  · rw [if_neg he]
    exact ⟨_, _, _, _, rfl, .inr ⟨_, _, rfl, rfl⟩⟩
theorem t_neForm {u v : D} (h : (u = .non ∧ v = .non) ∨ ∃ z p, u = .int z ∧ v = R p) : FG neT (.tup [u, v, R s, R r]) (.tup [u, v, R s, R r]) (.bl false) := by
  rcases h with ⟨rfl, rfl⟩ | ⟨z, p, rfl, rfl⟩
  · exact t_ne (fun μ => rfl) (by simp only [deqL, deq_R, decide_true, deq_sc (k := 2) (x := .non) (y := .non) rfl rfl, eqV])
  · exact t_ne (fun μ => rfl) (by simp only [deqL, deq_R, decide_true, deq_ii, beq_self_eq_true])
theorem t_eqForm {u v u2 v2 : D} (h : (u = .non ∧ v = .non) ∨ ∃ z p, u = .int z ∧ v = R p) (h2 : (u2 = .non ∧ v2 = .non) ∨ ∃ z p, u2 = .int z ∧ v2 = R p) : ∃ f, FG eqT (.tup [u, v, R s, R r]) (.tup [u2, v2, R x, R y]) (.bl f) := by
  have tail : ∃ f, deqL (deq 0 qR 2) [R s, R r] [R x, R y] = some f := by
    simp only [deqL, deq_R]
    by_cases e1 : s = x <;> by_cases e2 : r = y <;> simp [e1, e2]
  obtain ⟨f, hf⟩ := tail
  rcases h with ⟨rfl, rfl⟩ | ⟨z, p, rfl, rfl⟩ <;> rcases h2 with ⟨rfl, rfl⟩ | ⟨w, q, rfl, rfl⟩
  · exact ⟨f, t_eq (fun μ => rfl) (by
      rw [deqL, deq_sc (k := 2) (x := .non) (y := .non) rfl rfl]
      show deqL (deq 0 qR 2) [D.non, R s, R r] [D.non, R x, R y] = _
      rw [deqL, deq_sc (k := 2) (x := .non) (y := .non) rfl rfl]
      exact hf)⟩
  · exact ⟨false, t_eq (fun μ => rfl) (by
      rw [deqL, deq_sc (k := 2) (x := .non) (y := .int w) rfl rfl]
      rfl)⟩
  · exact ⟨false, t_eq (fun μ => rfl) (by
      rw [deqL, deq_sc (k := 2) (x := .int z) (y := .non) rfl rfl]
      rfl)⟩
  · by_cases e1 : z = w
    · by_cases e2 : p = q
      · exact ⟨f, t_eq (fun μ => rfl) (by
          rw [deqL, deq_ii, e1, beq_self_eq_true]
          show deqL (deq 0 qR 2) [R p, R s, R r] [R q, R x, R y] = _
          rw [deqL, deq_R, decide_eq_true e2]
          exact hf)⟩
      · exact ⟨false, t_eq (fun μ => rfl) (by
          rw [deqL, deq_ii, e1, beq_self_eq_true]
          show deqL (deq 0 qR 2) [R p, R s, R r] [R q, R x, R y] = _
          rw [deqL, deq_R, decide_eq_false e2]
          rfl)⟩
    · exact ⟨false, t_eq (fun μ => rfl) (by
        rw [deqL, deq_ii, show (z == w) = false by simpa using e1]
        rfl)⟩
theorem g_alike (M : Mo n l z p a b) (M2 : Mo n l w p2 a2 b2) (hlo : Sz m lo) (hhi : Sz m hi) (h : 8 * n + 8 * m + 8 * l + 8 ≤ 8000) : ∃ f, MG m_Move_is_alike [Mv z p a b, Mv w p2 a2 b2, Gd lo hi] (.bl f) := by
  unfold m_Move_is_alike
  have f1 := g_form M hlo hhi h
  have f2 := g_form M2 hlo hhi h
  obtain ⟨u, v, s, t, e, hs⟩ := fm_shape M lo hi
  obtain ⟨u2, v2, s2, t2, e2, hs2⟩ := fm_shape M2 lo hi
  rw [e] at f1
  rw [e2] at f2
  obtain ⟨f, hf⟩ := t_eqForm (s := s) (r := t) (x := s2) (y := t2) hs hs2
  refine ⟨f, MG.rt ?_⟩
  repeat' (first | k_memK | exact is22' _ _ _ _ | exact is11' lo hi | exact f1 | exact f2 | exact hf | exact rfl | exact fun _ => rfl | assumption | exact of_decide_eq_true rfl)
end
end K18

set_option Elab.async false
set_option linter.all false
set_option autoImplicit false
set_option maxRecDepth 100000
set_option maxHeartbeats 4000000
/-! k18: the mathematics: images, limits, moves done some times, class methods -/
namespace K18
open PySem L2 DL
local macro_rules | `(tactic| k_memK) => `(tactic| first | with_reducible exact GE.c | with_reducible exact GA.nil | ((with_reducible apply GE.var); exact rfl) | with_reducible apply GA.cons | with_reducible apply GE.bin | with_reducible apply GE.two | with_reducible apply GE.one | with_reducible apply GE.un | with_reducible apply GE.blt | with_reducible apply GE.lst | with_reducible apply GE.tup | with_reducible apply GE.call | with_reducible apply GE.makeL | with_reducible apply GE.meth | with_reducible apply GE.fld | with_reducible apply GE.prop | with_reducible apply GE.cmeth | with_reducible apply GE.cmethS | with_reducible apply GE.not | with_reducible apply GE.andB | with_reducible apply GE.orB | with_reducible apply GT.isB | with_reducible apply GT.tru | with_reducible apply GT.not | with_reducible apply GT.notF | with_reducible apply GT.notT | with_reducible apply GE.notF | with_reducible apply GE.notT | with_reducible apply GT.orB | with_reducible apply GT.andB | with_reducible exact SN.next | with_reducible apply SN.set | with_reducible apply SN.drop | with_reducible apply SR.ret | with_reducible apply SN.par2 | with_reducible apply SN.par3 | with_reducible apply SN.seq | with_reducible apply SR.seq | with_reducible apply SN.ifN | with_reducible apply SN.asg | with_reducible apply SN.for | with_reducible apply GI.seq | with_reducible apply FN.cons | with_reducible exact FN.nil | with_reducible apply SI.seq | with_reducible apply SI.fld | with_reducible apply SI.of)
section
variable {a b c d x y p q r s lo hi a2 b2 p2 : Rat} {i j z w : Int} {f g : Bool} {n m l k : Nat}
theorem g_upper (M : Mo n l z p a b) (hc : Sz m c) (h : 8 * n + 8 * m + 8 * l + 8 ≤ 8000) : ∃ g, MG m_Move_upper_image [Mv z p a b, Ct c f] (Ct (at_ z p a b c) g) := by
  unfold m_Move_upper_image
  have hf := sz_fr M.hp M.hz hc M.z0 M.l0
  refine ⟨f || (decide (b < fr z p c) || (!decide (a < fr z p c) || decide (a = b))), MG.rt ?_⟩
  repeat' (first | k_memK | exact g_rcut c f | exact g_free M.hp M.hz hc (by omega) M.z0 M.l0 | exact g_less M.hb hf (by omega) | exact g_less M.ha hf (by omega) | exact f_eq a b | exact g_at M hc (by omega) | exact by rw [sizeLine_eq]; decide | exact rfl | exact fun _ => rfl | assumption | exact of_decide_eq_true rfl)
theorem g_lower (M : Mo n l z p a b) (hc : Sz m c) (h : 8 * n + 8 * m + 8 * l + 8 ≤ 8000) : ∃ g, MG m_Move_lower_image [Mv z p a b, Ct c f] (Ct (at_ z p a b c) g) := by
  unfold m_Move_lower_image
  have hf := sz_fr M.hp M.hz hc M.z0 M.l0
  refine ⟨f && !(decide (fr z p c < a) || (!decide (fr z p c < b) || decide (a = b))), MG.rt ?_⟩
  repeat' (first | k_memK | exact g_rcut c f | exact g_free M.hp M.hz hc (by omega) M.z0 M.l0 | exact g_less hf M.hb (by omega) | exact g_less hf M.ha (by omega) | exact f_eq a b | exact g_at M hc (by omega) | exact by rw [sizeLine_eq]; decide | exact rfl | exact fun _ => rfl | assumption | exact of_decide_eq_true rfl)
theorem pred_lt (h : z.natAbs < 2 ^ l) (h1 : 1 ≤ z) : (z - 1).natAbs < 2 ^ l := by omega
theorem g_ulim (M : Mo n l z p a b) (hc : Sz m c) (h : 8 * n + 8 * m + 8 * l + 8 ≤ 8000) : ∃ q g, MG m_Move_upper_limit [Mv z p a b, Ct c f] (Ct q g) := by
  unfold m_Move_upper_limit
  obtain ⟨g0, hu⟩ := g_upper (f := f) M hc h
  have hf := g_first (f := f) (g := g0) hc (sz_at M hc) (by omega)
  obtain ⟨s0, hs0, es0⟩ := g_sign p
  cases e1 : fst c f (at_ z p a b c) g0
  · rw [e1] at hf
    refine ⟨c, f, MG.rt ?_⟩
    apply SR.fst
    apply SR.ifY (b := true)
    · apply GT.notF
      repeat' (first | k_memK | exact hu | exact hf | exact rfl | exact fun _ => rfl | assumption | exact of_decide_eq_true rfl)
    · rfl
    · repeat' (first | k_memK | exact g_of c | exact by rw [sizeLine_eq]; decide | exact rfl | exact fun _ => rfl | assumption | exact of_decide_eq_true rfl)
  · rw [e1] at hf
    by_cases hz : z = 1
    · by_cases hs : 0 < s0
      · refine ⟨b, true, MG.rt ?_⟩
        apply SR.seq
        · repeat' (first | k_memK | exact hu | exact hf | exact rfl | exact fun _ => rfl | assumption | exact of_decide_eq_true rfl)
        apply SR.fst
        apply SR.ifY (b := decide (z = 1))
        · repeat' (first | k_memK | exact eq_ii z 1 | exact rfl | exact fun _ => rfl | assumption | exact of_decide_eq_true rfl)
        · exact decide_eq_true hz
        · refine SR.ret (GE.tup (GA.cons (GE.ifT ?_ ?_) (GA.cons GE.c GA.nil)) (by rw [sizeLine_eq]; exact of_decide_eq_true rfl))
          · refine GT.eq (b := decide (0 < s0)) ?_ (decide_eq_true hs)
            repeat' (first | k_memK | exact hs0 | exact gt_ii s0 0 | exact rfl | exact fun _ => rfl | assumption | exact of_decide_eq_true rfl)
          · repeat' (first | k_memK | exact rfl | exact fun _ => rfl | assumption | exact of_decide_eq_true rfl)
      · refine ⟨a, true, MG.rt ?_⟩
        apply SR.seq
        · repeat' (first | k_memK | exact hu | exact hf | exact rfl | exact fun _ => rfl | assumption | exact of_decide_eq_true rfl)
        apply SR.fst
        apply SR.ifY (b := decide (z = 1))
        · repeat' (first | k_memK | exact eq_ii z 1 | exact rfl | exact fun _ => rfl | assumption | exact of_decide_eq_true rfl)
        · exact decide_eq_true hz
        · refine SR.ret (GE.tup (GA.cons (GE.ifF ?_ ?_) (GA.cons GE.c GA.nil)) (by rw [sizeLine_eq]; exact of_decide_eq_true rfl))
          · refine GT.eq (b := decide (0 < s0)) ?_ (decide_eq_false hs)
            repeat' (first | k_memK | exact hs0 | exact gt_ii s0 0 | exact rfl | exact fun _ => rfl | assumption | exact of_decide_eq_true rfl)
          · repeat' (first | k_memK | exact rfl | exact fun _ => rfl | assumption | exact of_decide_eq_true rfl)
    · have hz1 : z - 1 ≠ 0 := by omega
      have hsr := sz_over M.hp (sz_int (pred_lt M.hz M.z1) M.l0) (int_ne hz1)
      have hl := g_less M.ha hsr (by omega)
      have hl2 := g_less M.hb hsr (by omega)
      by_cases h1 : a < p / ((z - 1 : Int) : Rat)
      · by_cases h2 : b < p / ((z - 1 : Int) : Rat)
        · rw [decide_eq_true h1] at hl
          rw [decide_eq_true h2] at hl2
          refine ⟨b, true, MG.rt ?_⟩
          apply SR.seq
          · repeat' (first | k_memK | exact hu | exact hf | exact rfl | exact fun _ => rfl | assumption | exact of_decide_eq_true rfl)
          apply SR.seq
          · repeat' (first | k_memK | exact eq_ii z 1 | exact decide_eq_false hz | exact rfl | exact fun _ => rfl | assumption | exact of_decide_eq_true rfl)
          apply SR.seq
          · repeat' (first | k_memK | exact g_overI M.hp (pred_lt M.hz M.z1) (by omega) M.l0 hz1 | exact rfl | exact fun _ => rfl | assumption | exact of_decide_eq_true rfl)
          apply SR.seq
          · repeat' (first | k_memK | exact hl | exact rfl | exact fun _ => rfl | assumption | exact of_decide_eq_true rfl)
          · refine SR.ret (GE.ifT (GT.tru ?_) ?_)
            · repeat' (first | k_memK | exact hl2 | exact rfl | exact fun _ => rfl | assumption | exact of_decide_eq_true rfl)
            · repeat' (first | k_memK | exact by rw [sizeLine_eq]; decide | exact rfl | exact fun _ => rfl | assumption | exact of_decide_eq_true rfl)
        · rw [decide_eq_true h1] at hl
          rw [decide_eq_false h2] at hl2
          refine ⟨p / ((z - 1 : Int) : Rat), false, MG.rt ?_⟩
          apply SR.seq
          · repeat' (first | k_memK | exact hu | exact hf | exact rfl | exact fun _ => rfl | assumption | exact of_decide_eq_true rfl)
          apply SR.seq
          · repeat' (first | k_memK | exact eq_ii z 1 | exact decide_eq_false hz | exact rfl | exact fun _ => rfl | assumption | exact of_decide_eq_true rfl)
          apply SR.seq
          · repeat' (first | k_memK | exact g_overI M.hp (pred_lt M.hz M.z1) (by omega) M.l0 hz1 | exact rfl | exact fun _ => rfl | assumption | exact of_decide_eq_true rfl)
          apply SR.seq
          · repeat' (first | k_memK | exact hl | exact rfl | exact fun _ => rfl | assumption | exact of_decide_eq_true rfl)
          · refine SR.ret (GE.ifF (GT.tru ?_) ?_)
            · repeat' (first | k_memK | exact hl2 | exact rfl | exact fun _ => rfl | assumption | exact of_decide_eq_true rfl)
            · repeat' (first | k_memK | exact by rw [sizeLine_eq]; decide | exact rfl | exact fun _ => rfl | assumption | exact of_decide_eq_true rfl)
      · rw [decide_eq_false h1] at hl
        refine ⟨a, true, MG.rt ?_⟩
        apply SR.seq
        · repeat' (first | k_memK | exact hu | exact hf | exact rfl | exact fun _ => rfl | assumption | exact of_decide_eq_true rfl)
        apply SR.seq
        · repeat' (first | k_memK | exact eq_ii z 1 | exact decide_eq_false hz | exact rfl | exact fun _ => rfl | assumption | exact of_decide_eq_true rfl)
        apply SR.seq
        · repeat' (first | k_memK | exact g_overI M.hp (pred_lt M.hz M.z1) (by omega) M.l0 hz1 | exact rfl | exact fun _ => rfl | assumption | exact of_decide_eq_true rfl)
        apply SR.fst
        apply SR.ifY (b := true)
        · apply GT.notF
          repeat' (first | k_memK | exact hl | exact rfl | exact fun _ => rfl | assumption | exact of_decide_eq_true rfl)
        · rfl
        · repeat' (first | k_memK | exact by rw [sizeLine_eq]; decide | exact rfl | exact fun _ => rfl | assumption | exact of_decide_eq_true rfl)
end
end K18

set_option Elab.async false
set_option linter.all false
set_option autoImplicit false
set_option maxRecDepth 100000
set_option maxHeartbeats 4000000
/-! k18: the mathematics: lower limits, moves done some times, class methods, str -/
namespace K18
open PySem L2 DL
local macro_rules | `(tactic| k_memK) => `(tactic| first | with_reducible exact GE.c | with_reducible exact GA.nil | ((with_reducible apply GE.var); exact rfl) | with_reducible apply GA.cons | with_reducible apply GE.bin | with_reducible apply GE.two | with_reducible apply GE.one | with_reducible apply GE.un | with_reducible apply GE.blt | with_reducible apply GE.lst | with_reducible apply GE.tup | with_reducible apply GE.call | with_reducible apply GE.makeL | with_reducible apply GE.meth | with_reducible apply GE.fld | with_reducible apply GE.prop | with_reducible apply GE.cmeth | with_reducible apply GE.cmethS | with_reducible apply GE.not | with_reducible apply GE.andB | with_reducible apply GE.orB | with_reducible apply GT.isB | with_reducible apply GT.tru | with_reducible apply GT.not | with_reducible apply GT.notF | with_reducible apply GT.notT | with_reducible apply GE.notF | with_reducible apply GE.notT | with_reducible apply GT.orB | with_reducible apply GT.andB | with_reducible exact SN.next | with_reducible apply SN.set | with_reducible apply SN.drop | with_reducible apply SR.ret | with_reducible apply SN.par2 | with_reducible apply SN.par3 | with_reducible apply SN.seq | with_reducible apply SR.seq | with_reducible apply SN.ifN | with_reducible apply SN.asg | with_reducible apply SN.for | with_reducible apply GI.seq | with_reducible apply FN.cons | with_reducible exact FN.nil | with_reducible apply SI.seq | with_reducible apply SI.fld | with_reducible apply SI.of)
section
variable {a b c d x y p q r s lo hi a2 b2 p2 : Rat} {i j z w : Int} {f g : Bool} {n m l k : Nat}
theorem g_llim (M : Mo n l z p a b) (hc : Sz m c) (h : 8 * n + 8 * m + 8 * l + 8 ≤ 8000) : ∃ q g, MG m_Move_lower_limit [Mv z p a b, Ct c f] (Ct q g) := by
  unfold m_Move_lower_limit
  obtain ⟨g0, hu⟩ := g_lower (f := f) M hc h
  have hf := g_first (f := g0) (g := f) (sz_at M hc) hc (by omega)
  obtain ⟨s0, hs0, es0⟩ := g_sign p
  cases e1 : fst (at_ z p a b c) g0 c f
  · rw [e1] at hf
    refine ⟨c, f, MG.rt ?_⟩
    apply SR.fst
    apply SR.ifY (b := true)
    · apply GT.notF
      repeat' (first | k_memK | exact hu | exact hf | exact rfl | exact fun _ => rfl | assumption | exact of_decide_eq_true rfl)
    · rfl
    · repeat' (first | k_memK | exact g_of c | exact by rw [sizeLine_eq]; decide | exact rfl | exact fun _ => rfl | assumption | exact of_decide_eq_true rfl)
  · rw [e1] at hf
    by_cases hz : z = 1
    · by_cases hs : s0 < 0
      · refine ⟨a, false, MG.rt ?_⟩
        apply SR.seq
        · repeat' (first | k_memK | exact hu | exact hf | exact rfl | exact fun _ => rfl | assumption | exact of_decide_eq_true rfl)
        apply SR.fst
        apply SR.ifY (b := decide (z = 1))
        · repeat' (first | k_memK | exact eq_ii z 1 | exact rfl | exact fun _ => rfl | assumption | exact of_decide_eq_true rfl)
        · exact decide_eq_true hz
        · refine SR.ret (GE.tup (GA.cons (GE.ifT ?_ ?_) (GA.cons GE.c GA.nil)) (by rw [sizeLine_eq]; exact of_decide_eq_true rfl))
          · refine GT.eq (b := decide (s0 < 0)) ?_ (decide_eq_true hs)
            repeat' (first | k_memK | exact hs0 | exact lt_ii s0 0 | exact rfl | exact fun _ => rfl | assumption | exact of_decide_eq_true rfl)
          · repeat' (first | k_memK | exact rfl | exact fun _ => rfl | assumption | exact of_decide_eq_true rfl)
      · refine ⟨b, false, MG.rt ?_⟩
        apply SR.seq
        · repeat' (first | k_memK | exact hu | exact hf | exact rfl | exact fun _ => rfl | assumption | exact of_decide_eq_true rfl)
        apply SR.fst
        apply SR.ifY (b := decide (z = 1))
        · repeat' (first | k_memK | exact eq_ii z 1 | exact rfl | exact fun _ => rfl | assumption | exact of_decide_eq_true rfl)
        · exact decide_eq_true hz
        · refine SR.ret (GE.tup (GA.cons (GE.ifF ?_ ?_) (GA.cons GE.c GA.nil)) (by rw [sizeLine_eq]; exact of_decide_eq_true rfl))
          · refine GT.eq (b := decide (s0 < 0)) ?_ (decide_eq_false hs)
            repeat' (first | k_memK | exact hs0 | exact lt_ii s0 0 | exact rfl | exact fun _ => rfl | assumption | exact of_decide_eq_true rfl)
          · repeat' (first | k_memK | exact rfl | exact fun _ => rfl | assumption | exact of_decide_eq_true rfl)
    · have hz1 : z - 1 ≠ 0 := by omega
      have hsr := sz_over M.hp (sz_int (pred_lt M.hz M.z1) M.l0) (int_ne hz1)
      have hl := g_less hsr M.hb (by omega)
      have hl2 := g_less hsr M.ha (by omega)
      by_cases h1 : p / ((z - 1 : Int) : Rat) < b
      · by_cases h2 : p / ((z - 1 : Int) : Rat) < a
        · rw [decide_eq_true h1] at hl
          rw [decide_eq_true h2] at hl2
          refine ⟨a, false, MG.rt ?_⟩
          apply SR.seq
          · repeat' (first | k_memK | exact hu | exact hf | exact rfl | exact fun _ => rfl | assumption | exact of_decide_eq_true rfl)
          apply SR.seq
          · repeat' (first | k_memK | exact eq_ii z 1 | exact decide_eq_false hz | exact rfl | exact fun _ => rfl | assumption | exact of_decide_eq_true rfl)
          apply SR.seq
          · repeat' (first | k_memK | exact g_overI M.hp (pred_lt M.hz M.z1) (by omega) M.l0 hz1 | exact rfl | exact fun _ => rfl | assumption | exact of_decide_eq_true rfl)
          apply SR.seq
          · repeat' (first | k_memK | exact hl | exact rfl | exact fun _ => rfl | assumption | exact of_decide_eq_true rfl)
          · refine SR.ret (GE.ifT (GT.tru ?_) ?_)
            · repeat' (first | k_memK | exact hl2 | exact rfl | exact fun _ => rfl | assumption | exact of_decide_eq_true rfl)
            · repeat' (first | k_memK | exact by rw [sizeLine_eq]; decide | exact rfl | exact fun _ => rfl | assumption | exact of_decide_eq_true rfl)
        · rw [decide_eq_true h1] at hl
          rw [decide_eq_false h2] at hl2
          refine ⟨p / ((z - 1 : Int) : Rat), true, MG.rt ?_⟩
          apply SR.seq
          · repeat' (first | k_memK | exact hu | exact hf | exact rfl | exact fun _ => rfl | assumption | exact of_decide_eq_true rfl)
          apply SR.seq
          · repeat' (first | k_memK | exact eq_ii z 1 | exact decide_eq_false hz | exact rfl | exact fun _ => rfl | assumption | exact of_decide_eq_true rfl)
          apply SR.seq
          · repeat' (first | k_memK | exact g_overI M.hp (pred_lt M.hz M.z1) (by omega) M.l0 hz1 | exact rfl | exact fun _ => rfl | assumption | exact of_decide_eq_true rfl)
          apply SR.seq
          · repeat' (first | k_memK | exact hl | exact rfl | exact fun _ => rfl | assumption | exact of_decide_eq_true rfl)
          · refine SR.ret (GE.ifF (GT.tru ?_) ?_)
            · repeat' (first | k_memK | exact hl2 | exact rfl | exact fun _ => rfl | assumption | exact of_decide_eq_true rfl)
            · repeat' (first | k_memK | exact by rw [sizeLine_eq]; decide | exact rfl | exact fun _ => rfl | assumption | exact of_decide_eq_true rfl)
      · rw [decide_eq_false h1] at hl
        refine ⟨b, false, MG.rt ?_⟩
        apply SR.seq
        · repeat' (first | k_memK | exact hu | exact hf | exact rfl | exact fun _ => rfl | assumption | exact of_decide_eq_true rfl)
        apply SR.seq
        · repeat' (first | k_memK | exact eq_ii z 1 | exact decide_eq_false hz | exact rfl | exact fun _ => rfl | assumption | exact of_decide_eq_true rfl)
        apply SR.seq
        · repeat' (first | k_memK | exact g_overI M.hp (pred_lt M.hz M.z1) (by omega) M.l0 hz1 | exact rfl | exact fun _ => rfl | assumption | exact of_decide_eq_true rfl)
        apply SR.fst
        apply SR.ifY (b := true)
        · apply GT.notF
          repeat' (first | k_memK | exact hl | exact rfl | exact fun _ => rfl | assumption | exact of_decide_eq_true rfl)
        · rfl
        · repeat' (first | k_memK | exact by rw [sizeLine_eq]; decide | exact rfl | exact fun _ => rfl | assumption | exact of_decide_eq_true rfl)
theorem lc_cons {γ : DenV} {τ : DenT} {ε : DenE} {ρ ρ1 : DL.Env} {d0 y0 : D} {ds acc zs : List D} (h0 : γ d0 ρ = some ρ1) (h1 : GT τ ρ1 true) (h2 : GE ε ρ1 y0) (h3 : acc.length < sizeLine) (h4 : RO (lcL γ τ ε ρ ds (acc ++ [y0])) zs) : RO (lcL γ τ ε ρ (d0 :: ds) acc) zs := fun μ => by
  obtain ⟨k1, e1⟩ := h1 μ
  obtain ⟨k2, e2⟩ := h2 (μ ++ nn k1)
  obtain ⟨k3, e3⟩ := h4 (μ ++ nn (k1 + k2))
  refine ⟨k1 + k2 + k3, ?_⟩
  simp only [lcL, h0, e1, noX, Res.bind, if_true]
  rw [e2]
  simp only [noX, Res.bind, if_pos h3, nn_nn]
  rw [e3, nn_nn]
theorem mo_added (M : Mo n l 1 p a b) (hi : i.natAbs < 2 ^ 3) : Mo (2 * n + 5) l 1 (p * (i : Rat)) (hold a b (a + p * ((i - 1 : Int) : Rat))) (hold a b (b + p * ((i - 1 : Int) : Rat))) := by
  have hi1 : (i - 1).natAbs < 2 ^ 4 := by omega
  have hs := sz_mul M.hp (sz_int hi1 (by decide))
  exact ⟨(sz_mul M.hp (sz_int hi (by decide))).up (by omega), (sz_hold M.ha M.hb (sz_add M.ha hs) (by omega)).up (by omega), (sz_hold M.ha M.hb (sz_add M.hb hs) (by omega)).up (by omega), M.hz, by decide, hold_mono (by have := M.ab; grind) M.ab, M.l0⟩
theorem g_added (M : Mo n l 1 p a b) (hi : i.natAbs < 2 ^ 3) (h : 20 * n + 100 ≤ 8000) : MG m_Move_added [Mv 1 p a b, .int i] (Mv 1 (p * (i : Rat)) (hold a b (a + p * ((i - 1 : Int) : Rat))) (hold a b (b + p * ((i - 1 : Int) : Rat)))) := by
  unfold m_Move_added
  have hi1 : (i - 1).natAbs < 2 ^ 4 := by omega
  have hs := sz_mul M.hp (sz_int hi1 (by decide))
  refine MG.rt ?_
  apply SR.seq
  · repeat' (first | k_memK | exact f_mulI M.hp hi1 (by omega) (by decide) | exact rfl | exact fun _ => rfl | assumption | exact of_decide_eq_true rfl)
  apply SR.seq
  · apply SN.asg
    · apply GE.lc
      · repeat' (first | k_memK | exact by rw [sizeLine_eq]; exact of_decide_eq_true rfl | exact rfl | exact fun _ => rfl | assumption | exact of_decide_eq_true rfl)
      · apply lc_cons
        · exact rfl
        · exact RO.pure fun μ => rfl
        · repeat' (first | k_memK | exact f_add M.ha hs (by omega) | exact g_held M.ha M.hb (sz_add M.ha hs) (by omega) | exact rfl | exact fun _ => rfl | assumption | exact of_decide_eq_true rfl)
        · rw [sizeLine_eq]; exact of_decide_eq_true rfl
        apply lc_cons
        · exact rfl
        · exact RO.pure fun μ => rfl
        · repeat' (first | k_memK | exact f_add M.hb hs (by omega) | exact g_held M.ha M.hb (sz_add M.hb hs) (by omega) | exact rfl | exact fun _ => rfl | assumption | exact of_decide_eq_true rfl)
        · rw [sizeLine_eq]; exact of_decide_eq_true rfl
        exact lc_nil
    · exact fun _ => rfl
  · refine SR.ret (GE.mkM (mo_added M hi) (by omega) (.rat _) (.rat _) (.rat _) ?_)
    repeat' (first | k_memK | exact f_mulI M.hp hi (by omega) (by decide) | exact rfl | exact fun _ => rfl | assumption | exact of_decide_eq_true rfl)
theorem g_done3 (M : Mo n l z p a b) (h : 40 * n + 60 * l + 200 ≤ 8000) : ∃ z' p' a' b', MG m_Move_done [Mv z p a b, .int 3] (Mv z' p' a' b') := by
  unfold m_Move_done
  by_cases hz : z = 1
  · subst hz
    iterate 4 apply Exists.intro
    apply MG.rt
    apply SR.seq
    · repeat' (first | k_memK | exact g_int 3 | exact lt_ii 3 1 | exact rfl | exact fun _ => rfl | assumption | exact of_decide_eq_true rfl)
    apply SR.fst
    apply SR.ifY (b := decide ((1 : Int) = 1))
    · repeat' (first | k_memK | exact eq_ii 1 1 | exact rfl | exact fun _ => rfl | assumption | exact of_decide_eq_true rfl)
    · exact rfl
    · repeat' (first | k_memK | exact g_added (i := 3) M (by decide) (by omega) | exact rfl | exact fun _ => rfl | assumption | exact of_decide_eq_true rfl)
  · iterate 4 apply Exists.intro
    apply MG.rt
    apply SR.seq
    · repeat' (first | k_memK | exact g_int 3 | exact lt_ii 3 1 | exact rfl | exact fun _ => rfl | assumption | exact of_decide_eq_true rfl)
    apply SR.seq
    · repeat' (first | k_memK | exact eq_ii z 1 | exact decide_eq_false hz | exact rfl | exact fun _ => rfl | assumption | exact of_decide_eq_true rfl)
    apply SR.seq
    · repeat' (first | k_memK | exact gt_ii 3 100 | exact rfl | exact fun _ => rfl | assumption | exact of_decide_eq_true rfl)
    apply SR.seq
    · repeat' (first | k_memK | exact rfl | exact fun _ => rfl | assumption | exact of_decide_eq_true rfl)
    apply SR.seq
    · apply SN.for (xs := [.int 0, .int 1])
      · exact RO.pure fun μ => rfl
      · repeat' (first | k_memK | exact g_then M M (by omega) | exact g_then (mo_then M M) M (by omega) | exact rfl | exact fun _ => rfl | assumption | exact of_decide_eq_true rfl)
    · repeat' (first | k_memK | exact rfl | exact fun _ => rfl | assumption | exact of_decide_eq_true rfl)
theorem g_done1 (M : Mo n l z p a b) (h : 40 * n + 60 * l + 200 ≤ 8000) : MG m_Move_done [Mv z p a b, .int 1] (Mv z p a b) := by
  unfold m_Move_done
  by_cases hz : z = 1
  · subst hz
    have e1 : p * ((1 : Int) : Rat) = p := by simp
    have e2 : p * ((1 - 1 : Int) : Rat) = 0 := by simp
    have h1 := g_added (i := 1) M (by decide) (by omega)
    have h3 : hold a b a = a := hold_id (not_lt_self a) M.ab
    have h4 : hold a b b = b := hold_id M.ab (not_lt_self b)
    rw [e2, e1, Rat.add_zero, Rat.add_zero, h3, h4] at h1
    refine MG.rt ?_
    apply SR.seq
    · repeat' (first | k_memK | exact g_int 1 | exact lt_ii 1 1 | exact rfl | exact fun _ => rfl | assumption | exact of_decide_eq_true rfl)
    apply SR.fst
    apply SR.ifY (b := decide ((1 : Int) = 1))
    · repeat' (first | k_memK | exact eq_ii 1 1 | exact rfl | exact fun _ => rfl | assumption | exact of_decide_eq_true rfl)
    · exact rfl
    · repeat' (first | k_memK | exact h1 | exact rfl | exact fun _ => rfl | assumption | exact of_decide_eq_true rfl)
  · refine MG.rt ?_
    apply SR.seq
    · repeat' (first | k_memK | exact g_int 1 | exact lt_ii 1 1 | exact rfl | exact fun _ => rfl | assumption | exact of_decide_eq_true rfl)
    apply SR.seq
    · repeat' (first | k_memK | exact eq_ii z 1 | exact decide_eq_false hz | exact rfl | exact fun _ => rfl | assumption | exact of_decide_eq_true rfl)
    apply SR.seq
    · repeat' (first | k_memK | exact gt_ii 1 100 | exact rfl | exact fun _ => rfl | assumption | exact of_decide_eq_true rfl)
    apply SR.seq
    · repeat' (first | k_memK | exact rfl | exact fun _ => rfl | assumption | exact of_decide_eq_true rfl)
    apply SR.seq
    · apply SN.for (xs := [])
      · exact RO.pure fun μ => rfl
      · repeat' (first | k_memK | exact rfl | exact fun _ => rfl | assumption | exact of_decide_eq_true rfl)
    · repeat' (first | k_memK | exact rfl | exact fun _ => rfl | assumption | exact of_decide_eq_true rfl)
/-! ### class methods -/
theorem mo_set (hq : Sz n q) (h : 1 ≤ n) : Mo n 1 1 ((0 : Int) : Rat) q q := ⟨(sz_int (i := 0) (n := n) (by rw [show (0 : Int).natAbs = 0 from rfl]; exact Nat.two_pow_pos n) h), hq, hq, by decide, by decide, not_lt_self q, by decide⟩
theorem mo_in (hp : Sz n p) (ha : Sz n a) (hb : Sz n b) (hab : ¬ b < a) (hz : z.natAbs < 2 ^ l) (h1 : 1 ≤ z) (hl : 0 < l) : Mo n l z p a b := ⟨hp, ha, hb, hz, h1, hab, hl⟩
theorem sz_zero (n : Nat) (h : 1 ≤ n) : Sz n ((0 : Int) : Rat) := sz_int (i := 0) (n := n) (by rw [show (0 : Int).natAbs = 0 from rfl]; exact Nat.two_pow_pos n) h
theorem GE.mkL {δs : DenA} {ρ : DL.Env} {x1 x2 x3 : D} (h0 : ρ[0]? = some (some (.cls 2))) (M : Mo n l z p a b) (h : 2 * n ≤ 8000) (n1 : Num x1 p) (n2 : Num x2 a) (n3 : Num x3 b) (h1 : GA δs ρ [.int z, x1, x2, x3]) : GE (dMakeL 0 2 4 0 gk_Move___init___4 m_Move___init__ δs dNil) ρ (Mv z p a b) := GE.makeL h0 h1 GA.nil rfl rfl (g_minit M h n1 n2 n3)
theorem g_setting (hq : Sz n q) (h1 : 1 ≤ n) (h : 2 * n ≤ 8000) : MG m_Move_setting [.cls 2, R q] (Mv 1 ((0 : Int) : Rat) q q) := by
  unfold m_Move_setting
  refine MG.rt ?_
  apply SR.seq
  · repeat' (first | k_memK | exact g_rnR q | exact rfl | exact fun _ => rfl | assumption | exact of_decide_eq_true rfl)
  · refine SR.ret (GE.mkL rfl (mo_set hq h1) h (.int 0) (.rat q) (.rat q) ?_)
    repeat' (first | k_memK | exact rfl | exact fun _ => rfl | assumption | exact of_decide_eq_true rfl)
theorem g_staying (ha : Sz n a) (hb : Sz n b) (hab : ¬ b < a) (h1 : 1 ≤ n) (h : 2 * n ≤ 8000) : MG m_Move_staying [.cls 2, Gd a b] (Mv 1 ((0 : Int) : Rat) a b) := by
  unfold m_Move_staying
  refine MG.rt ?_
  apply SR.seq
  · repeat' (first | k_memK | exact is11' a b | exact rfl | exact fun _ => rfl | assumption | exact of_decide_eq_true rfl)
  · refine SR.ret (GE.mkL rfl (mo_in (l := 1) (sz_zero n h1) ha hb hab (by decide) (by decide) (by decide)) h (.int 0) (.rat a) (.rat b) ?_)
    repeat' (first | k_memK | exact g_low1 _ _ | exact g_high1 _ _ | exact rfl | exact fun _ => rfl | assumption | exact of_decide_eq_true rfl)
theorem g_adding (hq : Sz n q) (ha : Sz n a) (hb : Sz n b) (hab : ¬ b < a) (h1 : 1 ≤ n) (h : 2 * n ≤ 8000) : MG m_Move_adding [.cls 2, R q, Gd a b] (Mv 1 q a b) := by
  unfold m_Move_adding
  refine MG.rt ?_
  apply SR.seq
  · repeat' (first | k_memK | exact g_rnR q | exact rfl | exact fun _ => rfl | assumption | exact of_decide_eq_true rfl)
  apply SR.seq
  · repeat' (first | k_memK | exact is11' a b | exact rfl | exact fun _ => rfl | assumption | exact of_decide_eq_true rfl)
  · refine SR.ret (GE.mkL rfl (mo_in (l := 1) hq ha hb hab (by decide) (by decide) (by decide)) h (.rat q) (.rat a) (.rat b) ?_)
    repeat' (first | k_memK | exact g_low1 _ _ | exact g_high1 _ _ | exact rfl | exact fun _ => rfl | assumption | exact of_decide_eq_true rfl)
theorem g_dividing (ha : Sz n a) (hb : Sz n b) (hab : ¬ b < a) (hz : z.natAbs < 2 ^ l) (hz1 : 1 ≤ z) (hl : 0 < l) (h1 : 1 ≤ n) (h : 2 * n ≤ 8000) : MG m_Move_dividing [.cls 2, .int z, Gd a b] (Mv z ((0 : Int) : Rat) a b) := by
  unfold m_Move_dividing
  have hz2 : ¬ z < 1 := by omega
  refine MG.rt ?_
  apply SR.seq
  · repeat' (first | k_memK | exact g_int z | exact lt_ii z 1 | exact by rw [decide_eq_false hz2]; rfl | exact rfl | exact fun _ => rfl | assumption | exact of_decide_eq_true rfl)
  apply SR.seq
  · repeat' (first | k_memK | exact is11' a b | exact rfl | exact fun _ => rfl | assumption | exact of_decide_eq_true rfl)
  · refine SR.ret (GE.mkL rfl (mo_in (sz_zero n h1) ha hb hab hz hz1 hl) h (.int 0) (.rat a) (.rat b) ?_)
    repeat' (first | k_memK | exact g_low1 _ _ | exact g_high1 _ _ | exact rfl | exact fun _ => rfl | assumption | exact of_decide_eq_true rfl)
end
end K18

set_option Elab.async false
set_option linter.all false
set_option autoImplicit false
set_option maxRecDepth 100000
set_option maxHeartbeats 4000000
/-! k18: the mathematics: str, where a number tends to -/
namespace K18
open PySem L2 DL
local macro_rules | `(tactic| k_memK) => `(tactic| first | with_reducible exact GE.c | with_reducible exact GA.nil | ((with_reducible apply GE.var); exact rfl) | with_reducible apply GA.cons | with_reducible apply GE.bin | with_reducible apply GE.two | with_reducible apply GE.one | with_reducible apply GE.un | with_reducible apply GE.blt | with_reducible apply GE.lst | with_reducible apply GE.tup | with_reducible apply GE.call | with_reducible apply GE.makeL | with_reducible apply GE.meth | with_reducible apply GE.fld | with_reducible apply GE.prop | with_reducible apply GE.cmeth | with_reducible apply GE.cmethS | with_reducible apply GE.not | with_reducible apply GE.andB | with_reducible apply GE.orB | with_reducible apply GT.isB | with_reducible apply GT.tru | with_reducible apply GT.not | with_reducible apply GT.notF | with_reducible apply GT.notT | with_reducible apply GE.notF | with_reducible apply GE.notT | with_reducible apply GT.orB | with_reducible apply GT.andB | with_reducible exact SN.next | with_reducible apply SN.set | with_reducible apply SN.drop | with_reducible apply SR.ret | with_reducible apply SN.par2 | with_reducible apply SN.par3 | with_reducible apply SN.seq | with_reducible apply SR.seq | with_reducible apply SN.ifN | with_reducible apply SN.asg | with_reducible apply SN.for | with_reducible apply GI.seq | with_reducible apply FN.cons | with_reducible exact FN.nil | with_reducible apply SI.seq | with_reducible apply SI.fld | with_reducible apply SI.of)
section
variable {a b c d x y p q r s t : Rat} {i j z w : Int} {f g : Bool} {n m l k : Nat}
/-! ### str -/
theorem fmt_i (h : i.natAbs.log2 < 1920) : fmtD (.int i) = some (.str (toString i)) := by simp only [fmtD, if_pos h]
theorem jn_cons {δ : DenE} {δs : List DenE} {ρ : DL.Env} {acc y0 : Str} {d0 : D} (h : GE δ ρ (.str y0)) (hl : (acc ++ y0).length ≤ sizeLine) (h2 : RO (jnD δs (acc ++ y0) ρ) d0) : RO (jnD (δ :: δs) acc ρ) d0 := RO.bind h fun μ => by
  obtain ⟨k, e⟩ := h2 μ
  exact ⟨k, by dsimp only; rw [if_pos hl]; exact e⟩
theorem jn_nil {ρ : DL.Env} {acc : Str} : RO (jnD [] acc ρ) (.str acc) := RO.pure fun μ => rfl
theorem txt_len (h : i.natAbs.log2 < 1920) : (Str.ofString (toString i)).length ≤ 1921 := by
  rw [PySem.ofString_length]
  exact PySem.int_text_length_le (by decide) h
theorem g_str (hq : Sz n q) (h : n ≤ 1900) (h0 : 0 < n) : ∃ t, MG m_Ratio___str__ [R q] (.str t) := by
  unfold m_Ratio___str__
  have h1 : q.num.natAbs.log2 < 1920 := Nat.lt_of_lt_of_le (log_of hq.num h0) (by omega)
  have h2 : ((q.den : Nat) : Int).natAbs.log2 < 1920 := Nat.lt_of_lt_of_le (log_of hq.den h0) (by omega)
  by_cases hd : ((q.den : Nat) : Int) = 1
  · refine ⟨toString q.num, MG.rt ?_⟩
    apply SR.fst
    apply SR.ifY (b := decide (((q.den : Nat) : Int) = 1))
    · repeat' (first | k_memK | exact eq_ii _ 1 | exact rfl | exact fun _ => rfl | assumption | exact of_decide_eq_true rfl)
    · exact decide_eq_true hd
    · repeat' (first | k_memK | exact fmt_i h1 | exact rfl | exact fun _ => rfl | assumption | exact of_decide_eq_true rfl)
  · refine ⟨Str.empty ++ Str.ofString (toString q.num) ++ "/" ++ Str.ofString (toString (q.den : Int)), MG.rt ?_⟩
    have l1 := txt_len h1
    have l2 := txt_len h2
    have l0 : Str.length Str.empty = 0 := by decide +kernel
    have l3 : Str.length "/" = 1 := by decide +kernel
    apply SR.seq
    · repeat' (first | k_memK | exact eq_ii _ 1 | exact decide_eq_false hd | exact rfl | exact fun _ => rfl | assumption | exact of_decide_eq_true rfl)
    · apply SR.ret
      refine jn_cons (y0 := Str.ofString (toString q.num)) ?_ ?_ (jn_cons (y0 := "/") GE.c ?_ (jn_cons (y0 := Str.ofString (toString (q.den : Int))) ?_ ?_ jn_nil))
      · repeat' (first | k_memK | exact fmt_i h1 | exact rfl | exact fun _ => rfl | assumption | exact of_decide_eq_true rfl)
      · rw [PySem.strLen_append, sizeLine_eq]
        omega
      · rw [PySem.strLen_append, PySem.strLen_append, sizeLine_eq]
        omega
      · repeat' (first | k_memK | exact fmt_i h2 | exact rfl | exact fun _ => rfl | assumption | exact of_decide_eq_true rfl)
      · rw [PySem.strLen_append, PySem.strLen_append, PySem.strLen_append, sizeLine_eq]
        omega
/-! ### tends: the loop -/
def WN (t : DenT) (body : DenS) (j : Nat) (ρ ρ' : DL.Env) : Prop := ∀ μ, ∃ k, whileL t body j ρ μ = .nx ρ' (μ ++ nn k)
theorem WN.stop {τ : DenT} {body : DenS} {ρ : DL.Env} (h : GT τ ρ false) : WN τ body (k + 1) ρ ρ := fun μ => by
  obtain ⟨k1, e⟩ := h μ
  exact ⟨k1, by simp only [whileL, e, bindS]; rfl⟩
theorem WN.go {τ : DenT} {body : DenS} {ρ ρ2 ρ3 : DL.Env} (h : GT τ ρ true) (h2 : SN body ρ ρ2) (h3 : WN τ body k ρ2 ρ3) : WN τ body (k + 1) ρ ρ3 := fun μ => by
  obtain ⟨k1, e1⟩ := h μ
  obtain ⟨k2, e2⟩ := h2 (μ ++ nn k1)
  obtain ⟨k3, e3⟩ := h3 (μ ++ nn (k1 + k2))
  refine ⟨k1 + k2 + k3, ?_⟩
  simp only [whileL, e1, bindS, if_true]
  rw [e2]
  simp only [nn_nn]
  rw [e3, nn_nn]
theorem SN.augA {δ : DenE} {ρ : DL.Env} {i0 : Nat} (h0 : ρ[i0]? = some (some (.int i))) (h : GE δ ρ (.int j)) : SN (sAugA i0 δ) ρ (ρ.set i0 (some (.int (i + j)))) := by
  have h1 : ∀ μ, ∃ k, bindS (δ ρ μ) ρ (fun d μ1 => match d with
    | .int y => .nx (ρ.set i0 (some (.int (i + y)))) μ1
    | _ => .bad) = .nx (ρ.set i0 (some (.int (i + j)))) (μ ++ nn k) := SN.bindS h SN.refl
  intro μ
  obtain ⟨k, e⟩ := h1 μ
  refine ⟨k, ?_⟩
  unfold sAugA
  rw [h0]
  exact e
/-! ### tends: the numbers -/
theorem num_eq (q : Rat) : q * ((q.den : Int) : Rat) = (q.num : Rat) := by
  have h : (q.num : Rat) / ((q.den : Int) : Rat) = q := by rw [← Rat.divInt_eq_div, Rat.num_divInt_den]
  have h0 : ((q.den : Int) : Rat) ≠ 0 := int_ne (den_ne q)
  grind
theorem den_ge (q : Rat) : (1 : Rat) ≤ ((q.den : Int) : Rat) := by
  have : (1 : Int) ≤ (q.den : Int) := by
    have := q.den_nz
    omega
  exact_mod_cast this
theorem le_mul {v u : Rat} (h : 0 ≤ v) (h1 : 1 ≤ u) : v ≤ v * u := by
  have := Rat.mul_nonneg h (show 0 ≤ u - 1 by grind)
  grind
/-- a power that is bounded by a quotient -/
theorem pow_lt {D0 E0 : Rat} {w : Int} {n m : Nat} (hD : 0 < D0) (hE : 0 ≤ E0) (hw : 0 ≤ w) (h : D0 * (w : Rat) ≤ E0) (sD : Sz n D0) (sE : Sz m E0) : w.natAbs < 2 ^ (m + n) := by
  have hw' : (0 : Rat) ≤ (w : Rat) := by exact_mod_cast hw
  have e1 := num_eq D0
  have e2 := num_eq E0
  have d1 := den_ge D0
  have d2 := den_ge E0
  have n1 : 0 < D0.num := by
    have : 0 < D0 * ((D0.den : Int) : Rat) := by
      have := le_mul (v := D0) (by grind) d1
      grind
    rw [e1] at this
    exact_mod_cast this
  have n1' : (1 : Rat) ≤ (D0.num : Rat) := by
    have : (1 : Int) ≤ D0.num := by omega
    exact_mod_cast this
  -- w ≤ w D0 den = (D0 w) den ≤ E0 den ≤ E0.num den
  have s1 : (w : Rat) ≤ (w : Rat) * (D0.num : Rat) := le_mul hw' n1'
  have s2 : (w : Rat) * (D0.num : Rat) = (D0 * (w : Rat)) * ((D0.den : Int) : Rat) := by
    rw [← e1]
    grind
  have s3 : (D0 * (w : Rat)) * ((D0.den : Int) : Rat) ≤ E0 * ((D0.den : Int) : Rat) := Rat.mul_le_mul_of_nonneg_right h (by grind)
  have s4 : E0 ≤ (E0.num : Rat) := by
    have := le_mul hE d2
    grind
  have s5 : E0 * ((D0.den : Int) : Rat) ≤ (E0.num : Rat) * ((D0.den : Int) : Rat) := Rat.mul_le_mul_of_nonneg_right s4 (by grind)
  have s6 : (w : Rat) ≤ ((E0.num * (D0.den : Int) : Int) : Rat) := by
    rw [Rat.intCast_mul]
    grind
  have s7 : w ≤ E0.num * (D0.den : Int) := by exact_mod_cast s6
  have s8 := mul_lt sE.num sD.den
  omega
theorem pow_big {k : Nat} (hz : 2 ≤ z) : (2 ^ k : Nat) ≤ (z ^ k).natAbs := by
  rw [Int.natAbs_pow]
  exact Nat.pow_le_pow_left (by omega) k
theorem pow_pos (hz : 2 ≤ z) (k : Nat) : 0 < z ^ k := Int.pow_pos (by omega)
theorem pow_cast (z : Int) (k : Nat) : ((z ^ (k + 1) : Int) : Rat) = ((z ^ k : Int) : Rat) * (z : Rat) := by rw [Int.pow_succ, Rat.intCast_mul]
theorem fr_rest (hz : 2 ≤ z) (hr : r = p / ((z - 1 : Int) : Rat)) : fr z p t = r + (t - r) / (z : Rat) := by
  have h0 : (z : Rat) ≠ 0 := int_ne (by omega)
  have h1 : (z : Rat) - 1 ≠ 0 := by
    have : ((z - 1 : Int) : Rat) ≠ 0 := int_ne (by omega)
    simpa using this
  have e : ((z - 1 : Int) : Rat) = (z : Rat) - 1 := by simp
  rw [e] at hr
  unfold fr
  grind
/-- one turn: at the limit, or nearer to the rest by the divisor -/
theorem at_or (hz : 2 ≤ z) (hab : ¬ b < a) (hr : r = p / ((z - 1 : Int) : Rat)) (hl : hold a b r ≠ r) (h1 : ¬ t < a) (h2 : ¬ b < t) : at_ z p a b t = hold a b r ∨ at_ z p a b t = r + (t - r) / (z : Rat) := by
  have e := fr_rest (t := t) hz hr
  have hz1 : (1 : Rat) ≤ (z : Rat) := by
    have : (1 : Int) ≤ z := by omega
    exact_mod_cast this
  have h0 : (z : Rat) ≠ 0 := int_ne (by omega)
  unfold at_
  rw [e]
  obtain ⟨v, hv⟩ : ∃ v, v = (t - r) / (z : Rat) := ⟨_, rfl⟩
  have hv2 : v * (z : Rat) = t - r := by grind
  rw [← hv]
  have out : r < a ∨ b < r := by
    by_cases o1 : r < a
    · exact .inl o1
    · by_cases o2 : b < r
      · exact .inr o2
      · exact absurd (hold_id o1 o2) hl
  rcases out with o | o
  · have p1 : 0 ≤ v := by
      by_cases q1 : v < 0
      · have := Rat.mul_nonneg (show 0 ≤ -v by grind) (show 0 ≤ (z : Rat) by grind)
        grind
      · grind
    have p2 := le_mul p1 hz1
    unfold hold mn mx
    grind
  · have p1 : 0 ≤ -v := by
      by_cases q1 : 0 < v
      · have := Rat.mul_nonneg (show 0 ≤ v by grind) (show 0 ≤ (z : Rat) by grind)
        grind
      · grind
    have p2 := le_mul p1 hz1
    unfold hold mn mx
    grind
/-- behind k turns, if the limit is not reached -/
def Tk (z : Int) (r t : Rat) (k : Nat) : Rat := r + (t - r) / ((z ^ k : Int) : Rat)
theorem Tk0 : Tk z r t 0 = t := by
  unfold Tk
  rw [Int.pow_zero]
  simp
  grind
theorem Tk1 (hz : 2 ≤ z) : r + (Tk z r t k - r) / (z : Rat) = Tk z r t (k + 1) := by
  unfold Tk
  rw [pow_cast]
  have h0 : (z : Rat) ≠ 0 := int_ne (by omega)
  have h1 : ((z ^ k : Int) : Rat) ≠ 0 := int_ne (by have := pow_pos hz k; omega)
  grind
/-- .. few turns -/
theorem Tk_few (hz : 2 ≤ z) (hl : hold a b r ≠ r) (hab : ¬ b < a) (h1 : ¬ Tk z r t k < a) (h2 : ¬ b < Tk z r t k) (sD : Sz n (hold a b r - r)) (sE : Sz m (t - r)) : (z ^ k).natAbs < 2 ^ (m + n) := by
  have hw := pow_pos hz k
  have hw' : (0 : Rat) < ((z ^ k : Int) : Rat) := by exact_mod_cast hw
  obtain ⟨w, ew⟩ : ∃ w : Int, w = z ^ k := ⟨_, rfl⟩
  rw [← ew] at hw hw' ⊢
  have eT : (Tk z r t k - r) * (w : Rat) = t - r := by
    unfold Tk
    rw [← ew]
    grind
  have out : r < a ∨ b < r := by
    by_cases o1 : r < a
    · exact .inl o1
    · by_cases o2 : b < r
      · exact .inr o2
      · exact absurd (hold_id o1 o2) hl
  rcases out with o | o
  · have el : hold a b r = a := by unfold hold mn mx; grind
    rw [el] at sD
    have g1 : (a - r) * (w : Rat) ≤ (Tk z r t k - r) * (w : Rat) := Rat.mul_le_mul_of_nonneg_right (by grind) (by grind)
    have g2 := Rat.mul_nonneg (show 0 ≤ a - r by grind) (show 0 ≤ (w : Rat) by grind)
    exact pow_lt (D0 := a - r) (E0 := t - r) (by grind) (by grind) (by omega) (by grind) sD sE
  · have el : hold a b r = b := by unfold hold mn mx; grind
    rw [el] at sD
    have sD' : Sz n (r - b) := by
      have := sz_neg sD
      rw [show r - b = -(b - r) by grind]
      exact this
    have sE' : Sz m (r - t) := by
      have := sz_neg sE
      rw [show r - t = -(t - r) by grind]
      exact this
    have g1 : (r - b) * (w : Rat) ≤ (r - Tk z r t k) * (w : Rat) := Rat.mul_le_mul_of_nonneg_right (by grind) (by grind)
    have g2 := Rat.mul_nonneg (show 0 ≤ r - b by grind) (show 0 ≤ (w : Rat) by grind)
    exact pow_lt (D0 := r - b) (E0 := r - t) (by grind) (by grind) (by omega) (by grind) sD' sE'
end
end K18

set_option Elab.async false
set_option linter.all false
set_option autoImplicit false
set_option maxRecDepth 100000
set_option maxHeartbeats 4000000
/-! k18: the mathematics: where a number tends to -/
namespace K18
open PySem L2 DL
local macro_rules | `(tactic| k_memK) => `(tactic| first | with_reducible exact GE.c | with_reducible exact GA.nil | ((with_reducible apply GE.var); exact rfl) | with_reducible apply GA.cons | with_reducible apply GE.bin | with_reducible apply GE.two | with_reducible apply GE.one | with_reducible apply GE.un | with_reducible apply GE.blt | with_reducible apply GE.lst | with_reducible apply GE.tup | with_reducible apply GE.call | with_reducible apply GE.makeL | with_reducible apply GE.meth | with_reducible apply GE.fld | with_reducible apply GE.prop | with_reducible apply GE.cmeth | with_reducible apply GE.cmethS | with_reducible apply GE.not | with_reducible apply GE.andB | with_reducible apply GE.orB | with_reducible apply GT.isB | with_reducible apply GT.tru | with_reducible apply GT.not | with_reducible apply GT.notF | with_reducible apply GT.notT | with_reducible apply GE.notF | with_reducible apply GE.notT | with_reducible apply GT.orB | with_reducible apply GT.andB | with_reducible exact SN.next | with_reducible apply SN.set | with_reducible apply SN.drop | with_reducible apply SR.ret | with_reducible apply SN.par2 | with_reducible apply SN.par3 | with_reducible apply SN.seq | with_reducible apply SR.seq | with_reducible apply SN.ifN | with_reducible apply SN.asg | with_reducible apply SN.for | with_reducible apply GI.seq | with_reducible apply FN.cons | with_reducible exact FN.nil | with_reducible apply SI.seq | with_reducible apply SI.fld | with_reducible apply SI.of)
section
variable {a b c d x y p q r s t : Rat} {i j z w : Int} {f g : Bool} {n m l k : Nat}
theorem g_whole (hq : Sz n q) (h : n ≤ 8000) (h0 : 0 < n) : MG m_whole_above [R q] (.int (-((-q.num).fdiv (q.den : Int)))) := by
  unfold m_whole_above
  have hl : ((q.den : Nat) : Int).natAbs.log2 < 9000 := Nat.lt_of_lt_of_le (log_of hq.den h0) (by omega)
  refine MG.rt ?_
  repeat' (first | k_memK | exact g_top q | exact g_bot q | exact div_ii ⟨den_ne q, hl⟩ | exact rfl | exact fun _ => rfl | assumption | exact of_decide_eq_true rfl)
theorem g_counted (hp : Sz n p) (ha : Sz n a) (hb : Sz n b) (ht : Sz m t) (h : 4 * n + 4 * m + 4 ≤ 8000) (hp0 : p ≠ 0) (h0 : 0 < n) : ∃ q i, MG m_Move_counted [Mv 1 p a b, R t] (.tup [R q, .int i]) := by
  unfold m_Move_counted
  obtain ⟨s0, hs0, es0⟩ := g_sign p
  by_cases hs : 0 < s0
  · have e1 := sz_sub hb ht
    have e2 := sz_over e1 hp hp0
    refine ⟨b, 1 + -((-((b - t) / p).num).fdiv (((b - t) / p).den : Int)), MG.rt ?_⟩
    apply SR.seq
    · refine SN.set (d := R b) (GE.ifT (GT.eq (b := decide (0 < s0)) ?_ (decide_eq_true hs)) ?_)
      · repeat' (first | k_memK | exact hs0 | exact gt_ii s0 0 | exact rfl | exact fun _ => rfl | assumption | exact of_decide_eq_true rfl)
      · repeat' (first | k_memK | exact rfl | exact fun _ => rfl | assumption | exact of_decide_eq_true rfl)
    · repeat' (first | k_memK | exact f_sub hb ht (by omega) | exact g_over e1 hp (by omega) hp0 | exact g_whole e2 (by omega) (by omega) | exact by rw [sizeLine_eq]; exact of_decide_eq_true rfl | exact rfl | exact fun _ => rfl | assumption | exact of_decide_eq_true rfl)
  · have e1 := sz_sub ha ht
    have e2 := sz_over e1 hp hp0
    refine ⟨a, 1 + -((-((a - t) / p).num).fdiv (((a - t) / p).den : Int)), MG.rt ?_⟩
    apply SR.seq
    · refine SN.set (d := R a) (GE.ifF (GT.eq (b := decide (0 < s0)) ?_ (decide_eq_false hs)) ?_)
      · repeat' (first | k_memK | exact hs0 | exact gt_ii s0 0 | exact rfl | exact fun _ => rfl | assumption | exact of_decide_eq_true rfl)
      · repeat' (first | k_memK | exact rfl | exact fun _ => rfl | assumption | exact of_decide_eq_true rfl)
    · repeat' (first | k_memK | exact f_sub ha ht (by omega) | exact g_over e1 hp (by omega) hp0 | exact g_whole e2 (by omega) (by omega) | exact by rw [sizeLine_eq]; exact of_decide_eq_true rfl | exact rfl | exact fun _ => rfl | assumption | exact of_decide_eq_true rfl)
abbrev tauT : DenT := dIsB (dTwo neR (dVar 2) (dVar 4))
abbrev bodyT : DenS := sSeq (sSet 2 (dMeth "at" 1 0 gk_Move_at_1 [(2, m_Move_at)] (dVar 0) (dCons (dVar 2) (dNil)) (dNil))) (sAugA 5 (dC (.int 1)))
abbrev rhoT (z : Int) (p a b x r lim now : Rat) (c : Int) : DL.Env := [some (Mv z p a b), some (R x), some (R now), some (R r), some (R lim), some (.int c)]
theorem g_loop (M : Mo 81 7 z p a b) (hz : 2 ≤ z) (hr : r = p / ((z - 1 : Int) : Rat)) (hl : hold a b r ≠ r) (sR : Sz 88 r) (sD : Sz 177 (hold a b r - r)) (sE : Sz 259 (t - r)) :
    ∀ (j k : Nat) (c : Int), 438 < k + j → ¬ Tk z r t k < a → ¬ b < Tk z r t k → ∃ c', WN tauT bodyT j (rhoT z p a b x r (hold a b r) (Tk z r t k) c) (rhoT z p a b x r (hold a b r) (hold a b r) c') := by
  intro j
  induction j with
  | zero =>
    intro k c hk h1 h2
    have h3 := Tk_few hz hl M.ab h1 h2 sD sE
    have h4 := pow_big (z := z) (k := k) hz
    have h5 : (2 : Nat) ^ k < 2 ^ (259 + 177) := by omega
    have h6 := (Nat.pow_lt_pow_iff_right (by decide : 1 < 2)).mp h5
    omega
  | succ j ih =>
    intro k c hk h1 h2
    have h3 := Tk_few hz hl M.ab h1 h2 sD sE
    have h4 := pow_big (z := z) (k := k) hz
    have h5 : (2 : Nat) ^ k < 2 ^ (259 + 177) := by omega
    have h6 := (Nat.pow_lt_pow_iff_right (by decide : 1 < 2)).mp h5
    by_cases he : Tk z r t k = hold a b r
    · refine ⟨c, ?_⟩
      rw [he]
      refine WN.stop (GT.eq (b := !decide (hold a b r = hold a b r)) ?_ (by simp))
      repeat' (first | k_memK | exact f_ne _ _ | exact rfl | exact fun _ => rfl | assumption | exact of_decide_eq_true rfl)
    · have hw : (z ^ k).natAbs < 2 ^ 436 := h3
      have hw0 : z ^ k ≠ 0 := by have := pow_pos hz k; omega
      have sT : Sz 784 (Tk z r t k) := sz_add sR (sz_over sE (sz_int hw (by decide)) (int_ne hw0))
      have hgt : GT tauT (rhoT z p a b x r (hold a b r) (Tk z r t k) c) true := by
        refine GT.eq (b := !decide (Tk z r t k = hold a b r)) ?_ (by simp [he])
        repeat' (first | k_memK | exact f_ne _ _ | exact rfl | exact fun _ => rfl | assumption | exact of_decide_eq_true rfl)
      have hsn : SN bodyT (rhoT z p a b x r (hold a b r) (Tk z r t k) c) (rhoT z p a b x r (hold a b r) (at_ z p a b (Tk z r t k)) (c + 1)) := by
        apply SN.seq
        · repeat' (first | k_memK | exact g_at M sT (by decide) | exact rfl | exact fun _ => rfl | assumption | exact of_decide_eq_true rfl)
        · exact SN.augA rfl GE.c
      have hin := hold_in (a := a) (b := b) (x := fr z p (Tk z r t k)) M.ab
      rcases at_or hz M.ab hr hl h1 h2 with e | e
      · rw [e] at hsn
        obtain ⟨j', rfl⟩ : ∃ j', j = j' + 1 := ⟨j - 1, by omega⟩
        refine ⟨c + 1, WN.go hgt hsn (WN.stop (GT.eq (b := !decide (hold a b r = hold a b r)) ?_ (by simp)))⟩
        repeat' (first | k_memK | exact f_ne _ _ | exact rfl | exact fun _ => rfl | assumption | exact of_decide_eq_true rfl)
      · have hi1 : ¬ at_ z p a b (Tk z r t k) < a := hin.1
        have hi2 : ¬ b < at_ z p a b (Tk z r t k) := hin.2
        rw [e, Tk1 hz] at hsn hi1 hi2
        obtain ⟨c', hw⟩ := ih (k + 1) (c + 1) (by omega) hi1 hi2
        exact ⟨c', WN.go hgt hsn hw⟩
theorem ne_zero_p (M : Mo n l 1 p a b) (h : at_ 1 p a b (at_ 1 p a b x) ≠ at_ 1 p a b x) : p ≠ 0 := by
  intro e
  apply h
  have hin := hold_in (a := a) (b := b) (x := fr 1 p x) M.ab
  have e1 : fr 1 p (at_ 1 p a b x) = at_ 1 p a b x := by
    unfold fr
    rw [e]
    simp
    grind
  show hold a b (fr 1 p (at_ 1 p a b x)) = _
  rw [e1]
  exact hold_id hin.1 hin.2
theorem g_tends (M : Mo 81 7 z p a b) (hx : Sz 81 x) : ∃ q d, MG m_Move_tends [Mv z p a b, R x] (.tup [R q, d]) ∧ (d = .non ∨ ∃ i, d = .int i) := by
  unfold m_Move_tends
  have s1 : Sz 170 (at_ z p a b x) := sz_at M hx
  have g1 := g_at M hx (by decide)
  have g2 := g_at M s1 (by decide)
  by_cases e1 : at_ z p a b x = x
  · refine ⟨x, .int 0, MG.rt ?_, .inr ⟨0, rfl⟩⟩
    apply SR.seq
    · repeat' (first | k_memK | exact g_of x | exact rfl | exact fun _ => rfl | assumption | exact of_decide_eq_true rfl)
    apply SR.fst
    apply SR.ifY (b := decide (at_ z p a b x = x))
    · repeat' (first | k_memK | exact g1 | exact f_eq _ _ | exact rfl | exact fun _ => rfl | assumption | exact of_decide_eq_true rfl)
    · exact decide_eq_true e1
    · repeat' (first | k_memK | exact by rw [sizeLine_eq]; exact of_decide_eq_true rfl | exact rfl | exact fun _ => rfl | assumption | exact of_decide_eq_true rfl)
  by_cases e2 : at_ z p a b (at_ z p a b x) = at_ z p a b x
  · refine ⟨at_ z p a b x, .int 1, MG.rt ?_, .inr ⟨1, rfl⟩⟩
    apply SR.seq
    · repeat' (first | k_memK | exact g_of x | exact rfl | exact fun _ => rfl | assumption | exact of_decide_eq_true rfl)
    apply SR.seq
    · repeat' (first | k_memK | exact g1 | exact f_eq _ _ | exact decide_eq_false e1 | exact rfl | exact fun _ => rfl | assumption | exact of_decide_eq_true rfl)
    apply SR.seq
    · repeat' (first | k_memK | exact g1 | exact rfl | exact fun _ => rfl | assumption | exact of_decide_eq_true rfl)
    apply SR.fst
    apply SR.ifY (b := decide (at_ z p a b (at_ z p a b x) = at_ z p a b x))
    · repeat' (first | k_memK | exact g2 | exact f_eq _ _ | exact rfl | exact fun _ => rfl | assumption | exact of_decide_eq_true rfl)
    · exact decide_eq_true e2
    · repeat' (first | k_memK | exact by rw [sizeLine_eq]; exact of_decide_eq_true rfl | exact rfl | exact fun _ => rfl | assumption | exact of_decide_eq_true rfl)
  have eqI : ∀ k : Int, FG eqR (.int k) (.int 1) (.bl (decide (k = 1))) := fun k => FG.or1 (FG.op (eq_ii k 1))
  by_cases hz : z = 1
  · subst hz
    obtain ⟨q, i, hc⟩ := g_counted M.hp M.ha M.hb s1 (by decide) (ne_zero_p M e2) (by decide)
    refine ⟨q, .int i, MG.rt ?_, .inr ⟨i, rfl⟩⟩
    apply SR.seq
    · repeat' (first | k_memK | exact g_of x | exact rfl | exact fun _ => rfl | assumption | exact of_decide_eq_true rfl)
    apply SR.seq
    · repeat' (first | k_memK | exact g1 | exact f_eq _ _ | exact decide_eq_false e1 | exact rfl | exact fun _ => rfl | assumption | exact of_decide_eq_true rfl)
    apply SR.seq
    · repeat' (first | k_memK | exact g1 | exact rfl | exact fun _ => rfl | assumption | exact of_decide_eq_true rfl)
    apply SR.seq
    · repeat' (first | k_memK | exact g2 | exact f_eq _ _ | exact decide_eq_false e2 | exact rfl | exact fun _ => rfl | assumption | exact of_decide_eq_true rfl)
    apply SR.fst
    apply SR.ifY (b := decide ((1 : Int) = 1))
    · repeat' (first | k_memK | exact eqI 1 | exact rfl | exact fun _ => rfl | assumption | exact of_decide_eq_true rfl)
    · exact rfl
    · repeat' (first | k_memK | exact hc | exact rfl | exact fun _ => rfl | assumption | exact of_decide_eq_true rfl)
  have hz1 : z - 1 ≠ 0 := by omega
  have hz2 : 2 ≤ z := by have := M.z1; omega
  obtain ⟨r, hr⟩ : ∃ r, r = p / ((z - 1 : Int) : Rat) := ⟨_, rfl⟩
  have sR : Sz 88 r := by rw [hr]; exact sz_over M.hp (sz_int (pred_lt M.hz M.z1) (by decide)) (int_ne hz1)
  have go := g_overI (i := z - 1) M.hp (pred_lt M.hz M.z1) (by decide) (by decide) hz1
  rw [← hr] at go
  have gh := g_held (z := z) (p := p) M.ha M.hb sR (by decide)
  have sH : Sz 88 (hold a b r) := sz_hold M.ha M.hb sR (by decide)
  by_cases e3 : hold a b r = r
  · refine ⟨hold a b r, .non, MG.rt ?_, .inl rfl⟩
    apply SR.seq
    · repeat' (first | k_memK | exact g_of x | exact rfl | exact fun _ => rfl | assumption | exact of_decide_eq_true rfl)
    apply SR.seq
    · repeat' (first | k_memK | exact g1 | exact f_eq _ _ | exact decide_eq_false e1 | exact rfl | exact fun _ => rfl | assumption | exact of_decide_eq_true rfl)
    apply SR.seq
    · repeat' (first | k_memK | exact g1 | exact rfl | exact fun _ => rfl | assumption | exact of_decide_eq_true rfl)
    apply SR.seq
    · repeat' (first | k_memK | exact g2 | exact f_eq _ _ | exact decide_eq_false e2 | exact rfl | exact fun _ => rfl | assumption | exact of_decide_eq_true rfl)
    apply SR.seq
    · repeat' (first | k_memK | exact eqI z | exact decide_eq_false hz | exact rfl | exact fun _ => rfl | assumption | exact of_decide_eq_true rfl)
    apply SR.seq
    · repeat' (first | k_memK | exact go | exact rfl | exact fun _ => rfl | assumption | exact of_decide_eq_true rfl)
    apply SR.seq
    · repeat' (first | k_memK | exact gh | exact rfl | exact fun _ => rfl | assumption | exact of_decide_eq_true rfl)
    apply SR.fst
    apply SR.ifY (b := decide (hold a b r = r))
    · repeat' (first | k_memK | exact f_eq _ _ | exact rfl | exact fun _ => rfl | assumption | exact of_decide_eq_true rfl)
    · exact decide_eq_true e3
    · repeat' (first | k_memK | exact by rw [sizeLine_eq]; exact of_decide_eq_true rfl | exact rfl | exact fun _ => rfl | assumption | exact of_decide_eq_true rfl)
  have hin := hold_in (a := a) (b := b) (x := fr z p x) M.ab
  have sD : Sz 177 (hold a b r - r) := sz_sub sH sR
  have sE : Sz 259 (at_ z p a b x - r) := sz_sub s1 sR
  obtain ⟨c', hw⟩ := g_loop (x := x) M hz2 hr e3 sR sD sE 2000 0 1 (by decide) (by rw [Tk0]; exact hin.1) (by rw [Tk0]; exact hin.2)
  rw [Tk0] at hw
  refine ⟨hold a b r, .int c', MG.rt ?_, .inr ⟨c', rfl⟩⟩
  apply SR.seq
  · repeat' (first | k_memK | exact g_of x | exact rfl | exact fun _ => rfl | assumption | exact of_decide_eq_true rfl)
  apply SR.seq
  · repeat' (first | k_memK | exact g1 | exact f_eq _ _ | exact decide_eq_false e1 | exact rfl | exact fun _ => rfl | assumption | exact of_decide_eq_true rfl)
  apply SR.seq
  · repeat' (first | k_memK | exact g1 | exact rfl | exact fun _ => rfl | assumption | exact of_decide_eq_true rfl)
  apply SR.seq
  · repeat' (first | k_memK | exact g2 | exact f_eq _ _ | exact decide_eq_false e2 | exact rfl | exact fun _ => rfl | assumption | exact of_decide_eq_true rfl)
  apply SR.seq
  · repeat' (first | k_memK | exact eqI z | exact decide_eq_false hz | exact rfl | exact fun _ => rfl | assumption | exact of_decide_eq_true rfl)
  apply SR.seq
  · repeat' (first | k_memK | exact go | exact rfl | exact fun _ => rfl | assumption | exact of_decide_eq_true rfl)
  apply SR.seq
  · repeat' (first | k_memK | exact gh | exact rfl | exact fun _ => rfl | assumption | exact of_decide_eq_true rfl)
  apply SR.seq
  · repeat' (first | k_memK | exact f_eq _ _ | exact decide_eq_false e3 | exact rfl | exact fun _ => rfl | assumption | exact of_decide_eq_true rfl)
  apply SR.seq
  · exact hw
  · repeat' (first | k_memK | exact by rw [sizeLine_eq]; exact of_decide_eq_true rfl | exact rfl | exact fun _ => rfl | assumption | exact of_decide_eq_true rfl)
end
end K18

set_option Elab.async false
set_option linter.all false
set_option autoImplicit false
set_option maxRecDepth 100000
set_option maxHeartbeats 4000000
/-! k18: the law's own defs: ratios, cuts, ranges -/
namespace K18
open PySem L2 DL
local macro_rules | `(tactic| k_memK) => `(tactic| first | with_reducible exact GE.c | with_reducible exact GA.nil | ((with_reducible apply GE.var); exact rfl) | with_reducible apply GA.cons | with_reducible apply GE.bin | with_reducible apply GE.two | with_reducible apply GE.one | with_reducible apply GE.un | with_reducible apply GE.blt | with_reducible apply GE.lst | with_reducible apply GE.tup | with_reducible apply GE.call | with_reducible apply GE.makeL | with_reducible apply GE.meth | with_reducible apply GE.fld | with_reducible apply GE.prop | with_reducible apply GE.cmeth | with_reducible apply GE.cmethS | with_reducible apply GE.not | with_reducible apply GE.andB | with_reducible apply GE.orB | with_reducible apply GT.isB | with_reducible apply GT.tru | with_reducible apply GT.not | with_reducible apply GT.notF | with_reducible apply GT.notT | with_reducible apply GE.notF | with_reducible apply GE.notT | with_reducible apply GT.orB | with_reducible apply GT.andB | with_reducible exact SN.next | with_reducible apply SN.set | with_reducible apply SN.drop | with_reducible apply SR.ret | with_reducible apply SN.par2 | with_reducible apply SN.par3 | with_reducible apply SN.seq | with_reducible apply SR.seq | with_reducible apply SN.ifN | with_reducible apply SN.asg | with_reducible apply SN.for | with_reducible apply GI.seq | with_reducible apply FN.cons | with_reducible exact FN.nil | with_reducible apply SI.seq | with_reducible apply SI.fld | with_reducible apply SI.of)
section
variable {a b c d x y p q r s t lo hi : Rat} {i j z w : Int} {f g v : Bool} {n m l k : Nat}
theorem GE.bltW {F : List D → Store → Res D} {δs : DenA} {ρ : DL.Env} {xs : List D} {d0 : D} (h : GA δs ρ xs) (h2 : RO (F xs) d0) : GE (dBltW F δs) ρ d0 := RO.bind h fun μ => by
  obtain ⟨k, e⟩ := h2 μ
  exact ⟨k, by show noX (F xs μ) = _; rw [e]; rfl⟩
theorem f_neS (q : Rat) : FG neR (R q) (R q) (.bl false) := RO.eq (f_ne q q) (by simp)
theorem f_eqS (q : Rat) : FG eqR (R q) (R q) (.bl true) := RO.eq (f_eq q q) (by simp)
theorem ne_bb (f : Bool) (μ : Store) : neP (.bl f) (.bl f) μ = some (.bl false) := by cases f <;> kernel_rfl
theorem eq_bb (f : Bool) (μ : Store) : eqP (.bl f) (.bl f) μ = some (.bl true) := by cases f <;> kernel_rfl
theorem ne_lb (f : Bool) (μ : Store) : neP (.lst [.bl true, .bl f]) (.lst [.bl true, .bl f]) μ = some (.bl false) := by cases f <;> kernel_rfl
theorem r_neB (f : Bool) : FG neR (.bl f) (.bl f) (.bl false) := FG.or1 (FG.op (ne_bb f))
theorem t_neB (f : Bool) : FG neT (.bl f) (.bl f) (.bl false) := FG.or1 (r_neB f)
theorem t_eqB (f : Bool) : FG eqT (.bl f) (.bl f) (.bl true) := FG.or1 (FG.or1 (FG.op (eq_bb f)))
theorem t_neLB (f : Bool) : FG neT (.lst [.bl true, .bl f]) (.lst [.bl true, .bl f]) (.bl false) := FG.or1 (FG.or1 (FG.op (ne_lb f)))
theorem r_neI (i j : Int) : FG neR (.int i) (.int j) (.bl (!decide (i = j))) := FG.or1 (FG.op (ne_ii i j))
theorem str_of {tx : Str} (h : MG m_Ratio___str__ [R q] (.str tx)) : RO (strF 0 m_Ratio___str__ [R q]) (.str tx) := fun μ => by
  obtain ⟨k, e⟩ := h μ
  refine ⟨k, ?_⟩
  show (match m_Ratio___str__ [R q] μ with
    | .ok (.str y) μ1 => Res.ok (D.str y) μ1
    | _ => .bad) = _
  rw [e]
theorem l_ratios (ha : Sz 81 a) (hb : Sz 81 b) (hi : i.natAbs < 2 ^ 8) (hj : j ≠ 0) (hj2 : j.natAbs < 2 ^ 81) : MG m__law_ratios_right [R a, R b, .int i, .int j] (.bl true) := by
  unfold m__law_ratios_right
  have g1 := g_init (t := i) hj (Nat.lt_of_lt_of_le hj2 (Nat.pow_le_pow_right (by decide) (by decide)))
  have g2 := g_init (t := i) (b := 1) (by decide) (Nat.lt_of_lt_of_le (show (1 : Int).natAbs < 2 ^ 1 by decide) (Nat.pow_le_pow_right (by decide) (by decide)))
  obtain ⟨s0, hs0, es0⟩ := g_sign b
  obtain ⟨tx, htx⟩ := g_str ha (by decide) (by decide)
  refine MG.rt ?_
  apply SR.seq
  · repeat' (first | k_memK | with_reducible apply GE.make | exact g1 | exact rfl | exact fun _ => rfl | assumption | exact of_decide_eq_true rfl)
  apply SR.seq
  · repeat' (first | k_memK | with_reducible apply GE.make | exact g1 | exact f_neS _ | exact rfl | exact fun _ => rfl | assumption | exact of_decide_eq_true rfl)
  apply SR.seq
  · repeat' (first | k_memK | with_reducible apply GE.make | exact g2 | exact f_neS _ | exact g_of a | exact rfl | exact fun _ => rfl | assumption | exact of_decide_eq_true rfl)
  apply SR.seq
  · repeat' (first | k_memK | with_reducible apply GE.make | exact g_numR a | exact g_below ha hb (by decide) | exact r_neB _ | exact rfl | exact fun _ => rfl | assumption | exact of_decide_eq_true rfl)
  apply SR.seq
  · by_cases hs : s0 = 0
    · refine SN.ifF (GT.andF (GT.isB (GE.eq (d := .bl (!decide (s0 = 0))) ?_ (by simp [hs])))) SN.next
      repeat' (first | k_memK | with_reducible apply GE.make | exact hs0 | exact r_neI _ _ | exact rfl | exact fun _ => rfl | assumption | exact of_decide_eq_true rfl)
    · have hb0 : b ≠ 0 := fun e => by
        rw [e] at es0
        exact hs (by rw [es0]; rfl)
      refine SN.ifF (GT.andT (GT.isB (GE.eq (d := .bl (!decide (s0 = 0))) ?_ (by simp [hs]))) ?_) SN.next
      · repeat' (first | k_memK | with_reducible apply GE.make | exact hs0 | exact r_neI _ _ | exact rfl | exact fun _ => rfl | assumption | exact of_decide_eq_true rfl)
      · repeat' (first | k_memK | with_reducible apply GE.make | exact g_over ha hb (by decide) hb0 | exact f_neS _ | exact rfl | exact fun _ => rfl | assumption | exact of_decide_eq_true rfl)
  · refine SR.ret (GE.andT ?_ (GE.andT (GE.notF ?_) ?_))
    · repeat' (first | k_memK | with_reducible apply GE.make | exact r_neL _ _ | exact by rw [sizeLine_eq]; exact of_decide_eq_true rfl | exact rfl | exact fun _ => rfl | assumption | exact of_decide_eq_true rfl)
    · refine GE.two (x := R a) (y := .str tx) ?_ (GE.bltW (xs := [R a]) ?_ (str_of htx)) (r_eqS _ _)
      · repeat' (first | k_memK | with_reducible apply GE.make | exact rfl | exact fun _ => rfl | assumption | exact of_decide_eq_true rfl)
      · repeat' (first | k_memK | with_reducible apply GE.make | exact rfl | exact fun _ => rfl | assumption | exact of_decide_eq_true rfl)
    · refine GE.eq (d := .bl (decide (a = a / ((1 : Int) : Rat)))) ?_ (by simp; grind)
      repeat' (first | k_memK | with_reducible apply GE.make | exact g_overI ha (i := 1) (m := 1) (by decide) (by decide) (by decide) (by decide) | exact f_eq _ _ | exact rfl | exact fun _ => rfl | assumption | exact of_decide_eq_true rfl)
/-! ### cuts -/
theorem fst_ne (h : fst a f b g = true) : (decide (a = b) && (f == g)) = false := by
  unfold fst at h
  by_cases e : a = b
  · have : ¬ a < b := by grind
    cases f <;> cases g <;> simp_all
  · simp [e]
theorem fst_back (h : fst a f b g = false) (h2 : (decide (a = b) && (f == g)) = false) : fst b g a f = true := by
  unfold fst at h ⊢
  by_cases e : a = b
  · subst e
    cases f <;> cases g <;> simp_all
  · have : ¬ a < b := by simp at h; grind
    have : b < a := by grind
    simp [this]
theorem fst_no (h2 : (decide (a = b) && (f == g)) = true) : fst b g a f = false := by
  simp at h2
  obtain ⟨rfl, rfl⟩ := h2
  exact fst_self _ _
theorem l_cuts (ha : Sz 81 a) (hb : Sz 81 b) : MG m__law_cuts_right [R a, R b, .lst [.bl f, .bl g]] (.bl true) := by
  unfold m__law_cuts_right
  have h1 := g_ahead (f := f) (g := g) ha hb (by decide)
  have h0 := g_above (f := f) hb ha (by decide)
  have sl : ∀ u v : D, [u, v].length ≤ sizeLine := fun u v => by rw [sizeLine_eq]; exact of_decide_eq_true rfl
  refine MG.rt ?_
  apply SR.seq
  · repeat' (first | k_memK | with_reducible apply GE.make | exact sl _ _ | exact rfl | exact fun _ => rfl | assumption | exact of_decide_eq_true rfl)
  apply SR.seq
  · repeat' (first | k_memK | with_reducible apply GE.make | exact g_cut a f | exact h0 | exact t_neLB _ | exact sl _ _ | exact rfl | exact fun _ => rfl | assumption | exact of_decide_eq_true rfl)
  apply SR.seq
  · repeat' (first | k_memK | with_reducible apply GE.make | exact h1 | exact t_neB _ | exact rfl | exact fun _ => rfl | assumption | exact of_decide_eq_true rfl)
  cases e1 : fst a f b g
  · rw [e1] at h1
    apply SR.seq
    · refine SN.set (d := .tup [Ct b g, Ct a f]) (GE.ifF ?_ ?_)
      · repeat' (first | k_memK | with_reducible apply GE.make | exact h1 | exact rfl | exact fun _ => rfl | assumption | exact of_decide_eq_true rfl)
      · repeat' (first | k_memK | with_reducible apply GE.make | exact sl _ _ | exact rfl | exact fun _ => rfl | assumption | exact of_decide_eq_true rfl)
    cases e2 : (decide (a = b) && (f == g))
    · have hs := fst_back e1 e2
      have g1 := g_stretch (f := g) (g := f) hb ha (by decide)
      rw [hs] at g1
      obtain ⟨q, hq⟩ := g_mark hb ha (by decide) hs
      apply SR.seq
      · apply SN.ifN (b := (decide (a = b) && (f == g)))
        · repeat' (first | k_memK | with_reducible apply GE.make | exact t_eqCut a b f g | exact rfl | exact fun _ => rfl | assumption | exact of_decide_eq_true rfl)
        · exact e2
        · exact SN.next
      apply SR.seq
      · repeat' (first | k_memK | with_reducible apply GE.make | exact g1 | exact hq | exact t_neR q | exact rfl | exact fun _ => rfl | assumption | exact of_decide_eq_true rfl)
      · repeat' (first | k_memK | with_reducible apply GE.make | exact g_within hb ha ha (by decide) (by decide) (by decide) hs | exact t_eqB _ | exact rfl | exact fun _ => rfl | assumption | exact of_decide_eq_true rfl)
    · have hs := fst_no e2
      have g1 := g_stretch (f := g) (g := f) hb ha (by decide)
      rw [hs] at g1
      apply SR.fst
      apply SR.ifY (b := (decide (a = b) && (f == g)))
      · repeat' (first | k_memK | with_reducible apply GE.make | exact t_eqCut a b f g | exact rfl | exact fun _ => rfl | assumption | exact of_decide_eq_true rfl)
      · exact e2
      · apply SR.ret
        refine GE.bin (x := .bl false) (y := .bl false) ?_ GE.c fun _ => rfl
        repeat' (first | k_memK | with_reducible apply GE.make | exact g1 | exact rfl | exact fun _ => rfl | assumption | exact of_decide_eq_true rfl)
  · rw [e1] at h1
    have e2 := fst_ne e1
    have g1 := g_stretch (f := f) (g := g) ha hb (by decide)
    rw [e1] at g1
    obtain ⟨q, hq⟩ := g_mark ha hb (by decide) e1
    apply SR.seq
    · refine SN.set (d := .tup [Ct a f, Ct b g]) (GE.ifT ?_ ?_)
      · repeat' (first | k_memK | with_reducible apply GE.make | exact h1 | exact rfl | exact fun _ => rfl | assumption | exact of_decide_eq_true rfl)
      · repeat' (first | k_memK | with_reducible apply GE.make | exact sl _ _ | exact rfl | exact fun _ => rfl | assumption | exact of_decide_eq_true rfl)
    apply SR.seq
    · apply SN.ifN (b := (decide (a = b) && (f == g)))
      · repeat' (first | k_memK | with_reducible apply GE.make | exact t_eqCut a b f g | exact rfl | exact fun _ => rfl | assumption | exact of_decide_eq_true rfl)
      · exact e2
      · exact SN.next
    apply SR.seq
    · repeat' (first | k_memK | with_reducible apply GE.make | exact g1 | exact hq | exact t_neR q | exact rfl | exact fun _ => rfl | assumption | exact of_decide_eq_true rfl)
    · repeat' (first | k_memK | with_reducible apply GE.make | exact g_within ha hb ha (by decide) (by decide) (by decide) e1 | exact t_eqB _ | exact rfl | exact fun _ => rfl | assumption | exact of_decide_eq_true rfl)
/-! ### ranges -/
theorem f_in (ha : Sz n a) (hb : Sz m b) (hx : Sz l x) (h : n + m + l ≤ 8000) (h1 : ¬ x < a) (h2 : ¬ b < x) : FG (inOwnF 1 m_Range___contains__) (R x) (Gd a b) (.bl true) := fun μ => by
  obtain ⟨k, e⟩ := g_in ha hb hx h μ
  refine ⟨k, ?_⟩
  rw [decide_eq_false h1, decide_eq_false h2] at e
  show (match m_Range___contains__ [Gd a b, R x] μ with
    | .ok (.bl b) μ1 => Res.ok (D.bl b) μ1
    | .exc C fs μ1 => .exc C fs μ1
    | _ => .bad) = _
  rw [e]
  rfl
theorem t_eqLL (a b : Rat) : FG eqT (.lst [R a, R b]) (.lst [R a, R b]) (.bl true) := t_eqL (fun μ => rfl) (by simp only [deqL, deq_R, decide_true])
theorem t_neLL (a b : Rat) : FG neT (.lst [R a, R b]) (.lst [R a, R b]) (.bl false) := t_neL (fun μ => rfl) (by simp only [deqL, deq_R, decide_true])
theorem t_neLI (i : Int) (b : Rat) : FG neT (.lst [.int i, R b]) (.lst [.int i, R b]) (.bl false) := t_neL (fun μ => rfl) (by simp only [deqL, deq_R, decide_true, deq_ii, beq_self_eq_true])
theorem l_ranges (ha : Sz 81 a) (hb : Sz 81 b) : MG m__law_ranges_right [R a, R b, .lst [.bl f, .bl g]] (.bl true) := by
  unfold m__law_ranges_right
  have h1 := g_below hb ha (by decide)
  have sl : ∀ u v : D, [u, v].length ≤ sizeLine := fun u v => by rw [sizeLine_eq]; exact of_decide_eq_true rfl
  refine MG.rt ?_
  by_cases hlt : b < a
  · rw [decide_eq_true hlt] at h1
    have hab : ¬ a < b := by grind
    have hri := g_rinit hb ha (by decide) hab
    obtain ⟨q, g2, hq⟩ := g_fit (f := f) hb ha hb (by decide)
    apply SR.seq
    · refine SN.asg (d := .tup [R b, R a]) (GE.ifT ?_ ?_) fun _ => rfl
      · repeat' (first | k_memK | with_reducible apply GE.make | exact h1 | exact rfl | exact fun _ => rfl | assumption | exact of_decide_eq_true rfl)
      · repeat' (first | k_memK | with_reducible apply GE.make | exact sl _ _ | exact rfl | exact fun _ => rfl | assumption | exact of_decide_eq_true rfl)
    apply SR.seq
    · repeat' (first | k_memK | with_reducible apply GE.make | exact hri | exact rfl | exact fun _ => rfl | assumption | exact of_decide_eq_true rfl)
    apply SR.seq
    · repeat' (first | k_memK | with_reducible apply GE.make | exact hri | exact u_neRange b a | exact u_eqRangeT b a _ | exact g_outer b a | exact u_of (t_neOut b a) | exact sl _ _ | exact rfl | exact fun _ => rfl | assumption | exact of_decide_eq_true rfl)
    apply SR.seq
    · repeat' (first | k_memK | with_reducible apply GE.make | exact sl _ _ | exact rfl | exact fun _ => rfl | assumption | exact of_decide_eq_true rfl)
    apply SR.seq
    · repeat' (first | k_memK | with_reducible apply GE.make | exact g_inner hb ha hb (by decide) | exact u_of (t_neB _) | exact hq | exact u_of (t_neCut _ _) | exact rfl | exact fun _ => rfl | assumption | exact of_decide_eq_true rfl)
    apply SR.seq
    · repeat' (first | k_memK | with_reducible apply GE.make | exact g_outer b a | exact g_hs hb ha (by decide) hab | exact g_hsL b a _ | exact rfl | exact fun _ => rfl | assumption | exact of_decide_eq_true rfl)
    · refine SR.ret (GE.andT ?_ (GE.andT ?_ (GE.andT ?_ (GE.notF ?_))))
      · repeat' (first | k_memK | with_reducible apply GE.make | exact g_low1 b a | exact g_high1 b a | exact u_ofE (t_eqLL b a) | exact sl _ _ | exact rfl | exact fun _ => rfl | assumption | exact of_decide_eq_true rfl)
      · repeat' (first | k_memK | with_reducible apply GE.make | exact f_in hb ha hb (by decide) (not_lt_self b) hab | exact rfl | exact fun _ => rfl | assumption | exact of_decide_eq_true rfl)
      · repeat' (first | k_memK | with_reducible apply GE.make | exact f_in hb ha ha (by decide) hab (not_lt_self a) | exact rfl | exact fun _ => rfl | assumption | exact of_decide_eq_true rfl)
      · repeat' (first | k_memK | with_reducible apply GE.make | exact g_outer b a | exact u_eqRangeT b a _ | exact rfl | exact fun _ => rfl | assumption | exact of_decide_eq_true rfl)
  · rw [decide_eq_false hlt] at h1
    have hab : ¬ b < a := hlt
    have hri := g_rinit ha hb (by decide) hab
    obtain ⟨q, g2, hq⟩ := g_fit (f := f) ha hb hb (by decide)
    apply SR.seq
    · refine SN.asg (d := .tup [R a, R b]) (GE.ifF ?_ ?_) fun _ => rfl
      · repeat' (first | k_memK | with_reducible apply GE.make | exact h1 | exact rfl | exact fun _ => rfl | assumption | exact of_decide_eq_true rfl)
      · repeat' (first | k_memK | with_reducible apply GE.make | exact sl _ _ | exact rfl | exact fun _ => rfl | assumption | exact of_decide_eq_true rfl)
    apply SR.seq
    · repeat' (first | k_memK | with_reducible apply GE.make | exact hri | exact rfl | exact fun _ => rfl | assumption | exact of_decide_eq_true rfl)
    apply SR.seq
    · repeat' (first | k_memK | with_reducible apply GE.make | exact hri | exact u_neRange a b | exact u_eqRangeT a b _ | exact g_outer a b | exact u_of (t_neOut a b) | exact sl _ _ | exact rfl | exact fun _ => rfl | assumption | exact of_decide_eq_true rfl)
    apply SR.seq
    · repeat' (first | k_memK | with_reducible apply GE.make | exact sl _ _ | exact rfl | exact fun _ => rfl | assumption | exact of_decide_eq_true rfl)
    apply SR.seq
    · repeat' (first | k_memK | with_reducible apply GE.make | exact g_inner ha hb hb (by decide) | exact u_of (t_neB _) | exact hq | exact u_of (t_neCut _ _) | exact rfl | exact fun _ => rfl | assumption | exact of_decide_eq_true rfl)
    apply SR.seq
    · repeat' (first | k_memK | with_reducible apply GE.make | exact g_outer a b | exact g_hs ha hb (by decide) hab | exact g_hsL a b _ | exact rfl | exact fun _ => rfl | assumption | exact of_decide_eq_true rfl)
    · refine SR.ret (GE.andT ?_ (GE.andT ?_ (GE.andT ?_ (GE.notF ?_))))
      · repeat' (first | k_memK | with_reducible apply GE.make | exact g_low1 a b | exact g_high1 a b | exact u_ofE (t_eqLL a b) | exact sl _ _ | exact rfl | exact fun _ => rfl | assumption | exact of_decide_eq_true rfl)
      · repeat' (first | k_memK | with_reducible apply GE.make | exact f_in ha hb ha (by decide) (not_lt_self a) hab | exact rfl | exact fun _ => rfl | assumption | exact of_decide_eq_true rfl)
      · repeat' (first | k_memK | with_reducible apply GE.make | exact f_in ha hb hb (by decide) hab (not_lt_self b) | exact rfl | exact fun _ => rfl | assumption | exact of_decide_eq_true rfl)
      · repeat' (first | k_memK | with_reducible apply GE.make | exact g_outer a b | exact u_eqRangeT a b _ | exact rfl | exact fun _ => rfl | assumption | exact of_decide_eq_true rfl)
end
end K18

set_option Elab.async false
set_option linter.all false
set_option autoImplicit false
set_option maxRecDepth 100000
set_option maxHeartbeats 4000000
/-! k18: the law's own defs: moves, class methods, draws -/
namespace K18
open PySem L2 DL
local macro_rules | `(tactic| k_memK) => `(tactic| first | with_reducible exact GE.c | with_reducible exact GA.nil | ((with_reducible apply GE.var); exact rfl) | with_reducible apply GA.cons | with_reducible apply GE.bin | with_reducible apply GE.two | with_reducible apply GE.one | with_reducible apply GE.un | with_reducible apply GE.blt | with_reducible apply GE.lst | with_reducible apply GE.tup | with_reducible apply GE.call | with_reducible apply GE.makeL | with_reducible apply GE.meth | with_reducible apply GE.fld | with_reducible apply GE.prop | with_reducible apply GE.cmeth | with_reducible apply GE.cmethS | with_reducible apply GE.not | with_reducible apply GE.andB | with_reducible apply GE.orB | with_reducible apply GT.isB | with_reducible apply GT.tru | with_reducible apply GT.not | with_reducible apply GT.notF | with_reducible apply GT.notT | with_reducible apply GE.notF | with_reducible apply GE.notT | with_reducible apply GT.orB | with_reducible apply GT.andB | with_reducible exact SN.next | with_reducible apply SN.set | with_reducible apply SN.drop | with_reducible apply SR.ret | with_reducible apply SN.par2 | with_reducible apply SN.par3 | with_reducible apply SN.seq | with_reducible apply SR.seq | with_reducible apply SN.ifN | with_reducible apply SN.asg | with_reducible apply SN.for | with_reducible apply GI.seq | with_reducible apply FN.cons | with_reducible exact FN.nil | with_reducible apply SI.seq | with_reducible apply SI.fld | with_reducible apply SI.of)
section
variable {a b c d x y p q r s t p2 : Rat} {i j z w : Int} {f g v : Bool} {n m l k : Nat}
theorem t_neTend {d0 : D} (h : d0 = .non ∨ ∃ i, d0 = .int i) : FG neT (.tup [R q, d0]) (.tup [R q, d0]) (.bl false) := by
  rcases h with rfl | ⟨i, rfl⟩
  · exact t_ne (fun μ => rfl) (by simp only [deqL, deq_R, decide_true, deq_sc (k := 2) (x := .non) (y := .non) rfl rfl, eqV])
  · exact t_ne (fun μ => rfl) (by simp only [deqL, deq_R, decide_true, deq_ii, beq_self_eq_true])
theorem l_moves (M : Mo 81 7 z p a b) (M2 : Mo 81 7 w p2 a b) (hc : Sz 81 c) (hx : Sz 81 x) : MG m__law_moves_right [Mv z p a b, Gd a b, Mv w p2 a b, Ct c f, R x] (.bl true) := by
  unfold m__law_moves_right
  obtain ⟨q1, g1, hb⟩ := g_back (f := f) M M.ha M.hb hc (by decide)
  have hf := g_form M M.ha M.hb (by decide)
  obtain ⟨u, v, s, t, e, hs⟩ := fm_shape M a b
  rw [e] at hf
  obtain ⟨g2, hu⟩ := g_upper (f := f) M hc (by decide)
  obtain ⟨g3, hlw⟩ := g_lower (f := f) M hc (by decide)
  obtain ⟨q4, g4, hul⟩ := g_ulim (f := f) M hc (by decide)
  obtain ⟨q5, g5, hll⟩ := g_llim (f := f) M hc (by decide)
  obtain ⟨f6, hal⟩ := g_alike M M2 M.ha M.hb (by decide)
  obtain ⟨z7, p7, a7, b7, hd3⟩ := g_done3 M (by decide)
  obtain ⟨q8, d8, ht, hd8⟩ := g_tends M hx
  have hd1 := g_done1 M (by decide)
  have sl : ∀ u v w y : D, [u, v, w, y].length ≤ sizeLine := fun u v w y => by rw [sizeLine_eq]; exact of_decide_eq_true rfl
  refine MG.rt ?_
  apply SR.seq
  · repeat' (first | k_memK | with_reducible apply GE.make | exact g_at M hx (by decide) | exact g_then M M2 (by decide) | exact u_of (t_neR _) | exact u_neMove _ _ _ _ | exact rfl | exact fun _ => rfl | assumption | exact of_decide_eq_true rfl)
  apply SR.seq
  · repeat' (first | k_memK | with_reducible apply GE.make | exact hb | exact hf | exact u_of (t_neCut _ _) | exact u_of (t_neForm hs) | exact rfl | exact fun _ => rfl | assumption | exact of_decide_eq_true rfl)
  apply SR.seq
  · repeat' (first | k_memK | with_reducible apply GE.make | exact hu | exact hlw | exact u_of (t_neCut _ _) | exact rfl | exact fun _ => rfl | assumption | exact of_decide_eq_true rfl)
  apply SR.seq
  · repeat' (first | k_memK | with_reducible apply GE.make | exact hul | exact hll | exact u_of (t_neCut _ _) | exact rfl | exact fun _ => rfl | assumption | exact of_decide_eq_true rfl)
  apply SR.seq
  · repeat' (first | k_memK | with_reducible apply GE.make | exact hal | exact u_of (t_neB _) | exact rfl | exact fun _ => rfl | assumption | exact of_decide_eq_true rfl)
  apply SR.seq
  · repeat' (first | k_memK | with_reducible apply GE.make | exact hd3 | exact ht | exact u_neMove _ _ _ _ | exact u_of (t_neTend hd8) | exact rfl | exact fun _ => rfl | assumption | exact of_decide_eq_true rfl)
  · refine SR.ret (GE.andT ?_ ?_)
    · repeat' (first | k_memK | with_reducible apply GE.make | exact hd1 | exact u_eqMove _ _ _ _ | exact rfl | exact fun _ => rfl | assumption | exact of_decide_eq_true rfl)
    · repeat' (first | k_memK | with_reducible apply GE.make | exact g_dv _ _ _ _ | exact g_pl _ _ _ _ | exact g_low2 _ _ _ _ | exact g_high2 _ _ _ _ | exact u_neMoveT _ _ _ _ _ | exact sl _ _ _ _ | exact rfl | exact fun _ => rfl | assumption | exact of_decide_eq_true rfl)
theorem l_class (ha : Sz 81 a) (hb : Sz 81 b) (hq : Sz 81 q) (hab : ¬ b < a) (hz : z.natAbs < 2 ^ 7) (h1 : 1 ≤ z) : MG m__law_class_methods_right [Gd a b, .int z, R q] (.bl true) := by
  unfold m__law_class_methods_right
  refine MG.rt ?_
  repeat' (first | k_memK | with_reducible apply GE.make | exact g_setting hq (by decide) (by decide) | exact g_staying ha hb hab (by decide) (by decide) | exact g_adding hq ha hb hab (by decide) (by decide) | exact g_dividing ha hb hab hz h1 (by decide) (by decide) (by decide) | exact u_neMove _ _ _ _ | exact u_eqMove _ _ _ _ | exact rfl | exact fun _ => rfl | assumption | exact of_decide_eq_true rfl)
/-! ### draws -/
theorem drawC : DrawC 48271 12227 2147483587 2147483549 13 := ⟨by decide, by decide, by decide +kernel⟩
variable {μ μ1 : Store}
theorem draw_ok (h : Pot μ n) (k : Int) (hk : 0 < k ∧ k < 1073741824) : ∃ d μ', m__law_draw [.loc n, .int k] μ = .ok (.int d) μ' ∧ 0 ≤ d ∧ d < k ∧ Pot μ' n := by
  unfold m__law_draw
  exact pot_draw drawC h hk
theorem choice_ok {xs : List D} (h : Pot μ n) (hk : 0 < xs.length ∧ xs.length < 1073741824) : ∃ d μ', m__law_choice [.loc n, .lst xs] μ = .ok d μ' ∧ d ∈ xs ∧ Pot μ' n := by
  unfold m__law_choice d__law_choice m__law_draw
  exact pot_choice drawC h hk
theorem pot_nn (h : Pot μ n) (k : Nat) : Pot (μ ++ nn k) n := by
  obtain ⟨x, y, h1, h2⟩ := h
  refine ⟨x, y, ?_, h2⟩
  unfold At2 at h1 ⊢
  rw [List.getElem?_append_left (List.getElem?_eq_some_iff.mp h1).1]
  exact h1
theorem mg_at {m0 : Mir} {ds : List D} {d0 : D} (h : MG m0 ds d0) (hP : Pot μ n) : ∃ μ', m0 ds μ = .ok d0 μ' ∧ Pot μ' n := by
  obtain ⟨k, e⟩ := h μ
  exact ⟨_, e, pot_nn hP k⟩
theorem sn_at {s0 : DenS} {ρ ρ1 : DL.Env} (h : SN s0 ρ ρ1) (hP : Pot μ n) : ∃ μ', s0 ρ μ = .nx ρ1 μ' ∧ Pot μ' n := by
  obtain ⟨k, e⟩ := h μ
  exact ⟨_, e, pot_nn hP k⟩
/-! ### fractions -/
theorem g_plain (hj : 0 < j) (hj2 : j.natAbs < 2 ^ 81) (hi : i.natAbs < 2 ^ 81) : MG m__law_plain [.int i, .int j] (.tup [.int (Rat.divInt i j).num, .int ((Rat.divInt i j).den : Int)]) := by
  unfold m__law_plain
  obtain ⟨e1, e2⟩ := sh_top (t := i) (b := j) (by omega)
  obtain ⟨s0, s1⟩ := sh_le (t := i) (b := j) (by omega)
  have es : sh i j = ((Nat.gcd i.natAbs j.natAbs : Nat) : Int) := if_pos hj
  rw [es] at e1 e2 s0 s1
  have hl : ((Nat.gcd i.natAbs j.natAbs : Nat) : Int).natAbs.log2 < 9000 := Nat.lt_trans (log_of (n := 81) (Nat.lt_of_le_of_lt s1 hj2) (by decide)) (by decide)
  have hn : ¬ j < 0 := by omega
  have ej : ((j.natAbs : Nat) : Int) = j := by omega
  refine MG.rt ?_
  apply SR.seq (ρ1 := [some (.int i), some (.int j), none, some (.int (i.natAbs : Int)), some (.int (j.natAbs : Int))])
  · refine SN.par2 ?_
    repeat' (first | k_memK | with_reducible apply GE.make | exact abs_i i | exact abs_i j | exact rfl | exact fun _ => rfl | assumption | exact of_decide_eq_true rfl)
  apply SR.seq (ρ1 := [some (.int i), some (.int j), none, some (.int (Nat.gcd i.natAbs j.natAbs : Nat)), some (.int ((0 : Nat) : Int))])
  · refine fun μ => while_gcd (ρ := fun a b => [some (.int i), some (.int j), none, some (.int (a : Int)), some (.int (b : Int))]) (fun a b => ?_) (fun a b h => ?_) _ i.natAbs j.natAbs (Nat.lt_succ_self _) μ
    · refine RO.eq (GT.isB (b := !decide ((b : Int) = 0)) ?_) (by by_cases h : b = 0 <;> simp [h])
      repeat' (first | k_memK | with_reducible apply GE.make | exact ne_ii _ _ | exact rfl | exact fun _ => rfl | assumption | exact of_decide_eq_true rfl)
    · have e : ((a : Int) % (b : Int)) = ((a % b : Nat) : Int) := rfl
      rw [← e]
      refine SN.par2 ?_
      repeat' (first | k_memK | with_reducible apply GE.make | exact mod_ii (by omega) | exact rfl | exact fun _ => rfl | assumption | exact of_decide_eq_true rfl)
  apply SR.seq
  · refine SN.set (d := .int 1) (GE.ifF (GT.eq (b := decide (j < 0)) ?_ (decide_eq_false hn)) GE.c)
    repeat' (first | k_memK | with_reducible apply GE.make | exact lt_ii j 0 | exact rfl | exact fun _ => rfl | assumption | exact of_decide_eq_true rfl)
  · refine SR.ret (GE.tup (xs := [.int (Rat.divInt i j).num, .int ((Rat.divInt i j).den : Int)]) ?_ (by rw [sizeLine_eq]; exact of_decide_eq_true rfl))
    rw [← e1, ← e2]
    apply GA.cons
    · rw [show i.fdiv ((Nat.gcd i.natAbs j.natAbs : Nat) : Int) = (1 * i).fdiv ((Nat.gcd i.natAbs j.natAbs : Nat) : Int) by rw [Int.one_mul]]
      repeat' (first | k_memK | with_reducible apply GE.make | exact mul_ii (mulOk_of (n := 1) (m := 81) (by decide) hi (by decide)) | exact div_ii ⟨s0, hl⟩ | exact rfl | exact fun _ => rfl | assumption | exact of_decide_eq_true rfl)
    · apply GA.cons
      · rw [show j.fdiv ((Nat.gcd i.natAbs j.natAbs : Nat) : Int) = ((j.natAbs : Nat) : Int).fdiv ((Nat.gcd i.natAbs j.natAbs : Nat) : Int) by rw [ej]]
        repeat' (first | k_memK | with_reducible apply GE.make | exact abs_i j | exact div_ii ⟨s0, hl⟩ | exact rfl | exact fun _ => rfl | assumption | exact of_decide_eq_true rfl)
      · exact GA.nil
end
end K18

set_option Elab.async false
set_option linter.all false
set_option autoImplicit false
set_option maxRecDepth 100000
set_option maxHeartbeats 4000000
/-! k18: the law -/
namespace K18
open PySem L2 DL
local macro_rules | `(tactic| k_memK) => `(tactic| first | with_reducible exact GE.c | with_reducible exact GA.nil | ((with_reducible apply GE.var); exact rfl) | with_reducible apply GA.cons | with_reducible apply GE.bin | with_reducible apply GE.two | with_reducible apply GE.one | with_reducible apply GE.un | with_reducible apply GE.blt | with_reducible apply GE.lst | with_reducible apply GE.tup | with_reducible apply GE.call | with_reducible apply GE.makeL | with_reducible apply GE.meth | with_reducible apply GE.fld | with_reducible apply GE.prop | with_reducible apply GE.cmeth | with_reducible apply GE.cmethS | with_reducible apply GE.not | with_reducible apply GE.andB | with_reducible apply GE.orB | with_reducible apply GT.isB | with_reducible apply GT.tru | with_reducible apply GT.not | with_reducible apply GT.notF | with_reducible apply GT.notT | with_reducible apply GE.notF | with_reducible apply GE.notT | with_reducible apply GT.orB | with_reducible apply GT.andB | with_reducible exact SN.next | with_reducible apply SN.set | with_reducible apply SN.drop | with_reducible apply SR.ret | with_reducible apply SN.par2 | with_reducible apply SN.par3 | with_reducible apply SN.seq | with_reducible apply SR.seq | with_reducible apply SN.ifN | with_reducible apply SN.asg | with_reducible apply SN.for | with_reducible apply GI.seq | with_reducible apply FN.cons | with_reducible exact FN.nil | with_reducible apply SI.seq | with_reducible apply SI.fld | with_reducible apply SI.of)
section
variable {a b c d x y p q r s t p2 : Rat} {i j z w : Int} {f g v : Bool} {n m l k : Nat} {μ μ1 : Store}
theorem sr_at {s0 : DenS} {ρ : DL.Env} {d0 : D} (h : SR s0 ρ d0) (hP : Pot μ n) : ∃ μ', s0 ρ μ = .rt d0 μ' ∧ Pot μ' n := by
  obtain ⟨k, e⟩ := h μ
  exact ⟨_, e, pot_nn hP k⟩
def menu1 : List D := [.int (10 ^ 24 + 1), .int (-(10 ^ 24)), .int (7 * 10 ^ 11)]
def menu2 : List D := [.int 1, .int 1, .int 2, .int 3, .int 4, .int 12]
def menu3 : List D := [.int 1, .int 2, .int (-3), .int (10 ^ 20)]
theorem in1 {d0 : D} (h : d0 ∈ menu1) : ∃ i : Int, d0 = .int i ∧ i.natAbs < 2 ^ 81 := by
  simp only [menu1, List.mem_cons, List.not_mem_nil, or_false] at h
  rcases h with rfl | rfl | rfl
  all_goals exact ⟨_, rfl, by decide +kernel⟩
theorem in2 {d0 : D} (h : d0 ∈ menu2) : ∃ i : Int, d0 = .int i ∧ 0 < i ∧ i.natAbs < 2 ^ 81 := by
  simp only [menu2, List.mem_cons, List.not_mem_nil, or_false] at h
  rcases h with rfl | rfl | rfl | rfl | rfl | rfl
  all_goals exact ⟨_, rfl, by decide +kernel, by decide +kernel⟩
theorem in3 {d0 : D} (h : d0 ∈ menu3) : ∃ i : Int, d0 = .int i ∧ i ≠ 0 ∧ i.natAbs < 2 ^ 81 := by
  simp only [menu3, List.mem_cons, List.not_mem_nil, or_false] at h
  rcases h with rfl | rfl | rfl | rfl
  all_goals exact ⟨_, rfl, by decide +kernel, by decide +kernel⟩
theorem fraction_ok (h : Pot μ n) : ∃ (q : Rat) (μ' : Store), m__law_fraction [.loc n] μ = .ok (.tup [.int q.num, .int (q.den : Int)]) μ' ∧ Sz 81 q ∧ Pot μ' n := by
  obtain ⟨d1, μ1, e1, l1, u1, h1⟩ := draw_ok h 16 (by decide)
  unfold m__law_fraction
  by_cases hd : d1 = 15
  · obtain ⟨d2, μ2, e2, hm, h2⟩ := choice_ok (xs := menu1) h1 (by decide)
    obtain ⟨i, rfl, hi⟩ := in1 hm
    obtain ⟨d3, μ3, e3, l3, u3, h3⟩ := draw_ok h2 (10 ^ 6) (by decide)
    have hj : (1 + d3).natAbs < 2 ^ 81 := Nat.lt_of_lt_of_le (show (1 + d3).natAbs < 2 ^ 30 by omega) (Nat.pow_le_pow_right (by decide) (by decide))
    obtain ⟨μ4, e4, h4⟩ := mg_at (g_plain (i := i) (j := 1 + d3) (by omega) hj hi) h3
    refine ⟨_, μ4, run_rt (sv_retE (sv_ifT (ev_isB (ev_bin (ev_call (ev_cons (ev_var rfl) (ev_cons ev_c ev_nil)) e1) ev_c (by rw [eq_ii, decide_eq_true hd]))) (sv_ret (ev_call (ev_cons (ev_call (ev_cons (ev_var rfl) (ev_cons (x := .lst menu1) ?_ ev_nil)) e2) (ev_cons (ev_bin ev_c (ev_call (ev_cons (ev_var rfl) (ev_cons (x := .int (10 ^ 6)) ?_ ev_nil)) e3) rfl) ev_nil)) e4)))), sz_div (by omega) hi hj, h4⟩
    · kernel_rfl
    · kernel_rfl
  · obtain ⟨d2, μ2, e2, l2, u2, h2⟩ := draw_ok h1 41 (by decide)
    obtain ⟨d3, μ3, e3, hm, h3⟩ := choice_ok (xs := menu2) h2 (by decide)
    obtain ⟨j, rfl, hj, hj2⟩ := in2 hm
    have hi : (d2 - 20).natAbs < 2 ^ 81 := Nat.lt_of_lt_of_le (show (d2 - 20).natAbs < 2 ^ 30 by omega) (Nat.pow_le_pow_right (by decide) (by decide))
    obtain ⟨μ4, e4, h4⟩ := mg_at (g_plain (i := d2 - 20) (j := j) hj hj2 hi) h3
    refine ⟨_, μ4, run_rt (sv_seq (sv_ifF (ev_isB (ev_bin (ev_call (ev_cons (ev_var rfl) (ev_cons ev_c ev_nil)) e1) ev_c (by rw [eq_ii, decide_eq_false hd]))) sv_next) (sv_ret (ev_call (ev_cons (ev_bin (ev_call (ev_cons (ev_var rfl) (ev_cons ev_c ev_nil)) e2) ev_c rfl) (ev_cons (ev_call (ev_cons (ev_var rfl) (ev_cons (x := .lst menu2) ?_ ev_nil)) e3) ev_nil)) e4))), sz_div (by omega) hi hj2, h4⟩
    kernel_rfl
theorem thing_ok (h : Pot μ n) : ∃ (q : Rat) (μ' : Store), m__law_thing [.loc n] μ = .ok (R q) μ' ∧ Sz 81 q ∧ Pot μ' n := by
  obtain ⟨q, μ1, e1, hq, h1⟩ := fraction_ok h
  have hs : SR (sRet (dMake 0 2 0 gk_Ratio___init___2 m_Ratio___init__ (dCons (dBin ixD (dVar 1) (dC (.int 0))) (dCons (dBin ixD (dVar 1) (dC (.int 1))) (dNil))) (dNil))) [some (.loc n), some (.tup [.int q.num, .int (q.den : Int)])] (R q) := by
    refine SR.ret (GE.mk2 ?_ (den_ne q) hq.den (by decide) (Rat.num_divInt_den q))
    repeat' (first | k_memK | with_reducible apply GE.make | exact rfl | exact fun _ => rfl | assumption | exact of_decide_eq_true rfl)
  obtain ⟨μ2, e2, h2⟩ := sr_at hs h1
  unfold m__law_thing
  exact ⟨q, μ2, run_rt (sv_seq (sv_set (ev_call (ev_cons (ev_var rfl) ev_nil) e1)) e2), hq, h2⟩
theorem eqU_ii (i j : Int) (μ : Store) : eqU (.int i) (.int j) μ = .ok (.bl (decide (i = j))) μ := by
  simp only [eqU, eqT, eqR, DL.orF, opF, eq_ii, ofO]
theorem ev_two {F : D → D → Store → Res D} {δa δb : DenE} {ρ : DL.Env} {x0 y0 : D} {μ2 : Store} {r0 : Res D} (h1 : δa ρ μ = .ok x0 μ1) (h2 : δb ρ μ1 = .ok y0 μ2) (h3 : F x0 y0 μ2 = r0) : dTwo F δa δb ρ μ = r0 := by
  simp only [dTwo, h1, Res.bind, h2, h3]
end
end K18

set_option Elab.async false
set_option linter.all false
set_option autoImplicit false
set_option maxRecDepth 100000
set_option maxHeartbeats 4000000
/-! k18: the law, its end -/
namespace K18
open PySem L2 DL
local macro_rules | `(tactic| k_memK) => `(tactic| first | with_reducible exact GE.c | with_reducible exact GA.nil | ((with_reducible apply GE.var); exact rfl) | with_reducible apply GA.cons | with_reducible apply GE.bin | with_reducible apply GE.two | with_reducible apply GE.one | with_reducible apply GE.un | with_reducible apply GE.blt | with_reducible apply GE.lst | with_reducible apply GE.tup | with_reducible apply GE.call | with_reducible apply GE.makeL | with_reducible apply GE.meth | with_reducible apply GE.fld | with_reducible apply GE.prop | with_reducible apply GE.cmeth | with_reducible apply GE.cmethS | with_reducible apply GE.not | with_reducible apply GE.andB | with_reducible apply GE.orB | with_reducible apply GT.isB | with_reducible apply GT.tru | with_reducible apply GT.not | with_reducible apply GT.notF | with_reducible apply GT.notT | with_reducible apply GE.notF | with_reducible apply GE.notT | with_reducible apply GT.orB | with_reducible apply GT.andB | with_reducible exact SN.next | with_reducible apply SN.set | with_reducible apply SN.drop | with_reducible apply SR.ret | with_reducible apply SN.par2 | with_reducible apply SN.par3 | with_reducible apply SN.seq | with_reducible apply SR.seq | with_reducible apply SN.ifN | with_reducible apply SN.asg | with_reducible apply SN.for | with_reducible apply GI.seq | with_reducible apply FN.cons | with_reducible exact FN.nil | with_reducible apply SI.seq | with_reducible apply SI.fld | with_reducible apply SI.of)
section
variable {a b c d x y p q r s t p2 : Rat} {i j z w : Int} {f g v : Bool} {n m l k : Nat} {μ μ1 : Store}
/-- a pot at n: the rows end with d -/
def PR (n : Nat) (s : DenS) (ρ : DL.Env) (d : D) : Prop := ∀ μ, Pot μ n → ∃ μ', s ρ μ = .rt d μ'
section
variable {A B : DenS} {ρ ρ1 : DL.Env} {d0 : D}
theorem PR.pure (h : SR A ρ d0) : PR n A ρ d0 := fun μ _ => by
  obtain ⟨k, e⟩ := h μ
  exact ⟨_, e⟩
theorem PR.seq (h : SN A ρ ρ1) (h2 : PR n B ρ1 d0) : PR n (sSeq A B) ρ d0 := fun μ hP => by
  obtain ⟨k, e⟩ := h μ
  obtain ⟨μ2, e2⟩ := h2 _ (pot_nn hP k)
  exact ⟨μ2, sv_seq e e2⟩
theorem PR.seqP (h : ∀ μ, Pot μ n → ∃ μ', A ρ μ = .nx ρ1 μ' ∧ Pot μ' n) (h2 : PR n B ρ1 d0) : PR n (sSeq A B) ρ d0 := fun μ hP => by
  obtain ⟨μ1, e, h1⟩ := h μ hP
  obtain ⟨μ2, e2⟩ := h2 _ h1
  exact ⟨μ2, sv_seq e e2⟩
theorem PR.ex (h : ∀ μ, Pot μ n → ∃ ρ1 μ', A ρ μ = .nx ρ1 μ' ∧ Pot μ' n ∧ PR n B ρ1 d0) : PR n (sSeq A B) ρ d0 := fun μ hP => by
  obtain ⟨ρ1, μ1, e, h1, h2⟩ := h μ hP
  obtain ⟨μ2, e2⟩ := h2 _ h1
  exact ⟨μ2, sv_seq e e2⟩
end
theorem sl2 (u v : D) : [u, v].length ≤ sizeLine := by
  rw [sizeLine_eq]
  exact of_decide_eq_true rfl
theorem turn_ok {ρ : DL.Env} {z : Int} {p p2 a b c : Rat} {f : Bool} (M : Mo 81 7 z p a b) (M2 : Mo 81 7 2 p2 a b) (hc : Sz 81 c) (h0 : ρ[0]? = some (some (.loc n))) (h9 : ρ[9]? = some (some (Mv z p a b))) (h10 : ρ[10]? = some (some (Gd a b))) (h11 : ρ[11]? = some (some (Mv 2 p2 a b))) (h12 : ρ[12]? = some (some (Ct c f))) (hP : Pot μ n) :
    ∃ μ', sIf (dNotT (dTru (dCallK 5 0 gP m__law_moves_right (dCons (dVar 9) (dCons (dVar 10) (dCons (dVar 11) (dCons (dVar 12) (dCons (dCallK 1 0 gP m__law_thing (dCons (dVar 0) (dNil)) dNil) (dNil)))))) dNil))) (sRet (dC (.bl false))) (sNext) ρ μ = .nx ρ μ' ∧ Pot μ' n := by
  obtain ⟨q, μ1, e1, hq, h1⟩ := thing_ok hP
  obtain ⟨μ2, e2, h2⟩ := mg_at (l_moves (f := f) M M2 hc hq) h1
  exact ⟨μ2, sv_ifF (ev_notT (b := true) (ev_tru (ev_call (ev_cons (ev_var h9) (ev_cons (ev_var h10) (ev_cons (ev_var h11) (ev_cons (ev_var h12) (ev_cons (ev_call (ev_cons (ev_var h0) ev_nil) e1) ev_nil))))) e2) rfl)) sv_next, h2⟩
theorem for2 {γ : DenG} {body : DenS} {ρ ρ1 ρ2 : DL.Env} {x0 x1 : D} {μ1 μ2 : Store} (h0 : ∀ μ, γ x0 ρ μ = .ok ρ1 μ) (e0 : body ρ1 μ = .nx ρ1 μ1) (h1 : ∀ μ, γ x1 ρ1 μ = .ok ρ2 μ) (e1 : body ρ2 μ1 = .nx ρ2 μ2) : forL γ body [x0, x1] ρ μ = .nx ρ2 μ2 := by
  simp only [forL, h0, e0, h1, e1]
theorem right_ok : PR n d__law_right (startD 13 [.loc n]) (.bl true) := by
  apply PR.ex
  intro μ hP
  obtain ⟨a, μ1, e1, ha, h1⟩ := thing_ok hP
  obtain ⟨b, μ2, e2, hb, h2⟩ := thing_ok h1
  refine ⟨_, _, sv_par2 (ev_cons (ev_call (ev_cons (ev_var rfl) ev_nil) e1) (ev_cons (ev_call (ev_cons (ev_var rfl) ev_nil) e2) ev_nil)), h2, ?_⟩
  apply PR.ex
  intro μ hP
  obtain ⟨d1, μ1, e1, l1, u1, h1⟩ := draw_ok hP 2 (by decide)
  obtain ⟨d2, μ2, e2, l2, u2, h2⟩ := draw_ok h1 2 (by decide)
  refine ⟨_, _, sv_set (ev_lst (ev_cons (ev_two (ev_call (ev_cons (ev_var rfl) (ev_cons ev_c ev_nil)) e1) ev_c (eqU_ii d1 1 _)) (ev_cons (ev_two (ev_call (ev_cons (ev_var rfl) (ev_cons ev_c ev_nil)) e2) ev_c (eqU_ii d2 1 _)) ev_nil)) (sl2 _ _)), h2, ?_⟩
  obtain ⟨f, ef⟩ : ∃ f, f = decide (d1 = 1) := ⟨_, rfl⟩
  obtain ⟨g, eg⟩ : ∃ g, g = decide (d2 = 1) := ⟨_, rfl⟩
  rw [← ef, ← eg]
  apply PR.ex
  intro μ hP
  obtain ⟨d3, μ1, e1, hm, h1⟩ := choice_ok (xs := menu3) hP (by decide)
  obtain ⟨j, rfl, hj, hj2⟩ := in3 hm
  refine ⟨_, _, sv_set (ev_call (ev_cons (ev_var rfl) (ev_cons (x := .lst menu3) (by kernel_rfl) ev_nil)) e1), h1, ?_⟩
  apply PR.ex
  intro μ hP
  obtain ⟨d4, μ1, e1, l4, u4, h1⟩ := draw_ok hP 100 (by decide)
  obtain ⟨μ2, e2, h2⟩ := mg_at (l_ratios ha hb (i := d4 - 50) (by omega) hj hj2) h1
  refine ⟨_, _, sv_ifF (ev_notT (b := true) (ev_tru (ev_call (ev_cons (ev_var rfl) (ev_cons (ev_var rfl) (ev_cons (ev_bin (ev_call (ev_cons (ev_var rfl) (ev_cons ev_c ev_nil)) e1) ev_c rfl) (ev_cons (ev_var rfl) ev_nil)))) e2) rfl)) sv_next, h2, ?_⟩
  apply PR.seq
  · repeat' (first | k_memK | with_reducible apply GE.make | exact l_cuts (f := f) (g := g) ha hb | exact l_ranges (f := f) (g := g) ha hb | exact rfl | exact fun _ => rfl | assumption | exact of_decide_eq_true rfl)
  apply PR.ex
  intro μ hP
  obtain ⟨d5, μ1, e1, l5, u5, h1⟩ := draw_ok hP 99 (by decide)
  refine ⟨_, _, sv_par3 (ev_cons (ev_bin ev_c (ev_call (ev_cons (ev_var rfl) (ev_cons ev_c ev_nil)) e1) (DL.add_int 1 d5 _)) (ev_cons (ev_var rfl) (ev_cons (ev_var rfl) ev_nil))), h1, ?_⟩
  obtain ⟨z, ez⟩ : ∃ z, z = 1 + d5 := ⟨_, rfl⟩
  rw [← ez]
  have hz : z.natAbs < 2 ^ 7 := by omega
  have hz1 : 1 ≤ z := by omega
  have hbl := g_below hb ha (by decide)
  have fin : ∀ {lo hi : Rat}, Sz 81 lo → Sz 81 hi → ¬ hi < lo → ∀ {A : DenS}, SN A [some (.loc n), some (.lst [.bl f, .bl g]), some (.int j), none, some (R a), some (R b), some (.int z), some (R a), some (R b), none, none, none, none] [some (.loc n), some (.lst [.bl f, .bl g]), some (.int j), none, some (R a), some (R b), some (.int z), some (R lo), some (R hi), none, none, none, none] →
      PR n (sSeq A (sSeq (sPar2 9 10 (dCons (dMake 2 0 4 gk_Move___init___0_high_low_plus_divisor m_Move___init__ (dNil) (dCons (dVar 8) (dCons (dVar 7) (dCons (dVar 5) (dCons (dVar 6) (dNil)))))) (dCons (dMake 1 2 0 gk_Range___init___2 m_Range___init__ (dCons (dVar 7) (dCons (dVar 8) (dNil))) (dNil)) (dNil)))) (sSeq (sIf (dOrT (dIsB (dTwo neU (dVar 9) (dMake 2 4 0 gk_Move___init___4 m_Move___init__ (dCons (dVar 6) (dCons (dVar 5) (dCons (dVar 7) (dCons (dVar 8) (dNil))))) (dNil)))) (dIsB (dTwo neU (dLst (dCons (dProp [(2, m_Move_divisor)] (dVar 9)) (dCons (dProp [(2, m_Move_plus)] (dVar 9)) (dNil)))) (dLst (dCons (dVar 6) (dCons (dVar 5) (dNil))))))) (sRet (dC (.bl false))) (sNext)) (sSeq (sIf (dIsB (dTwo neU (dLst (dCons (dProp [(1, m_Range_low), (2, m_Move_low)] (dVar 9)) (dCons (dProp [(1, m_Range_high), (2, m_Move_high)] (dVar 9)) (dNil)))) (dLst (dCons (dVar 7) (dCons (dVar 8) (dNil)))))) (sRet (dC (.bl false))) (sNext)) (sSeq (sPar2 11 12 (dCons (dMake 2 4 0 gk_Move___init___4 m_Move___init__ (dCons (dC (.int 2)) (dCons (dVar 4) (dCons (dVar 7) (dCons (dVar 8) (dNil))))) (dNil)) (dCons (dTup (dCons (dVar 5) (dCons (dBin ixD (dVar 1) (dC (.int 0))) (dNil)))) (dNil)))) (sSeq (sFor (iRng1 (dCons (dC (.int 2)) (dNil))) (gSet 3) (sIf (dNotT (dTru (dCallK 5 0 gP m__law_moves_right (dCons (dVar 9) (dCons (dVar 10) (dCons (dVar 11) (dCons (dVar 12) (dCons (dCallK 1 0 gP m__law_thing (dCons (dVar 0) (dNil)) dNil) (dNil)))))) dNil))) (sRet (dC (.bl false))) (sNext))) (sRet (dCallK 3 0 gP m__law_class_methods_right (dCons (dVar 10) (dCons (dVar 6) (dCons (dVar 4) (dNil)))) dNil)))))))) [some (.loc n), some (.lst [.bl f, .bl g]), some (.int j), none, some (R a), some (R b), some (.int z), some (R a), some (R b), none, none, none, none] (.bl true) := by
    intro lo hi hlo hhi hab A hA
    have M : Mo 81 7 z b lo hi := ⟨hb, hlo, hhi, hz, hz1, hab, by decide⟩
    have M2 : Mo 81 7 2 a lo hi := ⟨ha, hlo, hhi, by decide, by decide, hab, by decide⟩
    have g1 := g_minit M (by decide) (.rat b) (.rat lo) (.rat hi)
    have g2 := g_minit M2 (by decide) (.rat a) (.rat lo) (.rat hi)
    have g3 := g_rinit hlo hhi (by decide) hab
    refine PR.seq hA ?_
    apply PR.seq
    · repeat' (first | k_memK | with_reducible apply GE.make | exact g1 | exact g3 | exact rfl | exact fun _ => rfl | assumption | exact of_decide_eq_true rfl)
    apply PR.seq
    · repeat' (first | k_memK | with_reducible apply GE.make | exact g1 | exact u_neMove _ _ _ _ | exact g_dv _ _ _ _ | exact g_pl _ _ _ _ | exact u_of (t_neLI _ _) | exact sl2 _ _ | exact rfl | exact fun _ => rfl | assumption | exact of_decide_eq_true rfl)
    apply PR.seq
    · repeat' (first | k_memK | with_reducible apply GE.make | exact g_low2 _ _ _ _ | exact g_high2 _ _ _ _ | exact u_of (t_neLL _ _) | exact sl2 _ _ | exact rfl | exact fun _ => rfl | assumption | exact of_decide_eq_true rfl)
    apply PR.seq
    · repeat' (first | k_memK | with_reducible apply GE.make | exact g2 | exact sl2 _ _ | exact rfl | exact fun _ => rfl | assumption | exact of_decide_eq_true rfl)
    apply PR.seqP
    · intro μ hP
      obtain ⟨μ1, e1, h1⟩ := turn_ok (ρ := [some (.loc n), some (.lst [.bl f, .bl g]), some (.int j), some (.int 0), some (R a), some (R b), some (.int z), some (R lo), some (R hi), some (Mv z b lo hi), some (Gd lo hi), some (Mv 2 a lo hi), some (Ct b f)]) M M2 hb rfl rfl rfl rfl rfl hP
      obtain ⟨μ2, e2, h2⟩ := turn_ok (ρ := [some (.loc n), some (.lst [.bl f, .bl g]), some (.int j), some (.int 1), some (R a), some (R b), some (.int z), some (R lo), some (R hi), some (Mv z b lo hi), some (Gd lo hi), some (Mv 2 a lo hi), some (Ct b f)]) M M2 hb rfl rfl rfl rfl rfl h1
      exact ⟨μ2, sv_for (items := [.int 0, .int 1]) (by rfl) (for2 (fun _ => rfl) e1 (fun _ => rfl) e2), h2⟩
    · apply PR.pure
      repeat' (first | k_memK | with_reducible apply GE.make | exact l_class hlo hhi ha hab hz hz1 | exact rfl | exact fun _ => rfl | assumption | exact of_decide_eq_true rfl)
  by_cases hlt : b < a
  · refine fin (lo := b) (hi := a) hb ha (by grind) ?_
    apply SN.ifY (b := decide (b < a))
    · repeat' (first | k_memK | with_reducible apply GE.make | exact hbl | exact rfl | exact fun _ => rfl | assumption | exact of_decide_eq_true rfl)
    · exact decide_eq_true hlt
    · refine SN.par2 ?_
      repeat' (first | k_memK | with_reducible apply GE.make | exact rfl | exact fun _ => rfl | assumption | exact of_decide_eq_true rfl)
  · refine fin (lo := a) (hi := b) ha hb hlt ?_
    apply SN.ifN (b := decide (b < a))
    · repeat' (first | k_memK | with_reducible apply GE.make | exact hbl | exact rfl | exact fun _ => rfl | assumption | exact of_decide_eq_true rfl)
    · exact decide_eq_false hlt
    · exact SN.next
theorem rightM (h : Pot μ n) : ∃ μ', m__law_right [.loc n] μ = .ok (.bl true) μ' := by
  obtain ⟨μ', e⟩ := right_ok (n := n) μ h
  unfold m__law_right
  exact ⟨μ', run_rt e⟩
theorem rngM {ns : List Int} {k : Nat} (hk : k < 1000) (μ : Store) : ∃ μ', m__law_rng [.scr (ns.map D.int), .int (k : Int)] μ = .ok (.loc μ.length) μ' ∧ Pot μ' μ.length := by
  unfold m__law_rng
  exact rng_pot hk μ
theorem bools_yes : ∀ n : Nat, bools (List.replicate n (.bl true)) = some (List.replicate n true)
  | 0 => rfl
  | n + 1 => by
    rw [List.replicate_succ, List.replicate_succ]
    show (bools (List.replicate n (.bl true))).map _ = _
    rw [bools_yes n]
    rfl
theorem turns {ns : List Int} {ρ : DL.Env} (hρ : ρ = [some (D.scr (ns.map D.int)), none]) : ∀ (is : List Nat) (j : Nat) (μ : Store), (∀ i ∈ is, i < 1000) → j + is.length ≤ 1000 →
    ∃ μ', lcL (vName 1) tYesD (dCallK 1 0 gP m__law_right (dCons (dCallK 2 0 gP m__law_rng (dCons (dVar 0) (dCons (dVar 1) (dNil))) dNil) (dNil)) dNil) ρ (is.map fun i : Nat => D.int (0 + ((i : Nat) : Int))) (List.replicate j (.bl true)) μ = .ok (List.replicate (j + is.length) (.bl true)) μ'
  | [], j, μ, _, _ => ⟨μ, rfl⟩
  | i :: is, j, μ, hi, hl => by
    obtain ⟨μ1, e1, hP⟩ := rngM (ns := ns) (hi i List.mem_cons_self) μ
    obtain ⟨μ2, e2⟩ := rightM hP
    obtain ⟨μ3, e3⟩ := turns hρ is (j + 1) μ2 (fun k hk => hi k (List.mem_cons_of_mem _ hk)) (by rw [List.length_cons] at hl; omega)
    refine ⟨μ3, ?_⟩
    have c : dCallK 1 0 gP m__law_right (dCons (dCallK 2 0 gP m__law_rng (dCons (dVar 0) (dCons (dVar 1) (dNil))) dNil) (dNil)) dNil (ρ.set 1 (some (.int (0 + (i : Int))))) μ = .ok (.bl true) μ2 := by
      subst hρ
      rw [Int.zero_add]
      exact ev_call (ev_cons (ev_call (ev_cons ev_var (ev_cons ev_var ev_nil)) e1) ev_nil) e2
    have hs : (List.replicate j (D.bl true)).length < sizeLine := by
      rw [List.length_replicate, sizeLine_eq]
      omega
    have er : List.replicate j (D.bl true) ++ [D.bl true] = List.replicate (j + 1) (.bl true) := by
      rw [List.replicate_succ']
    have el : j + (i :: is).length = j + 1 + is.length := by
      rw [List.length_cons]
      omega
    rw [List.map_cons, el]
    simp only [lcL, vName, tYesD, noX, Res.bind, if_true, c, if_pos hs, er, e3]
theorem law_yes : ∀ ns : List Int, ns.length ≤ 63 → (∀ z ∈ ns, Builtin.Int.intBits z ≤ 1048576) → ∃ μ, m_law [.scr (ns.map D.int)] [] = .ok (.bl true) μ := by
  intro ns hn _
  obtain ⟨n, en, hlt⟩ : ∃ n : Nat, dBlt max2B (dCons (dC (.int 1)) (dCons (dBlt min2B (dCons (dC (.int 4)) (dCons (dBlt lenB (dCons (dVar 0) (dNil))) (dNil)))) (dNil))) [some (.scr (ns.map D.int)), none] [] = .ok (.int (n : Int)) [] ∧ n < 1000 := by
    obtain ⟨z, hz, h0, h1⟩ : ∃ z : Int, z = (if (if (ns.length : Int) < 4 then (ns.length : Int) else 4) > 1 then (if (ns.length : Int) < 4 then (ns.length : Int) else 4) else 1) ∧ 0 ≤ z ∧ z < 1000 := by
      refine ⟨_, rfl, ?_, ?_⟩ <;> split <;> split <;> omega
    obtain ⟨n, rfl⟩ : ∃ n : Nat, z = (n : Int) := ⟨z.toNat, by omega⟩
    refine ⟨n, ?_, by omega⟩
    rw [hz]
    exact ev_blt (ev_cons ev_c (ev_cons (ev_blt (ev_cons ev_c (ev_cons (ev_blt (ev_cons ev_var ev_nil) (d := .int (ns.length : Int)) (by simp [lenB, asS])) ev_nil)) rfl) ev_nil)) rfl
  obtain ⟨μ, e⟩ := turns (ns := ns) rfl (List.range n) 0 [] (fun i hi => by have := List.mem_range.mp hi; omega) (by rw [List.length_range]; omega)
  rw [List.length_range, Nat.zero_add] at e
  unfold m_law
  refine ⟨μ, run_rt (sv_ret (ev_blt (ev_cons (ev_lc (items := intsD 0 n) ?_ e) ev_nil) ?_))⟩
  · have es : startD 2 [D.scr (ns.map D.int)] = [some (.scr (ns.map D.int)), none] := rfl
    rw [es]
    unfold DL.iRng1
    simp only [dCons, en, Res.bind, dNil]
    rw [if_pos ⟨by omega, by omega⟩]
    rfl
  · show (bools (List.replicate n (.bl true))).map _ = _
    rw [bools_yes]
    simp
end
end K18

set_option Elab.async false
set_option linter.all false
set_option maxRecDepth 100000
set_option maxHeartbeats 0
/-! k18: the head, the law -/
namespace K18
open PySem PySem.W PySem.Calls PyProof.Rows
abbrev RowZ : OpenRow := OpenLaw.row PySem.Challenge.rw_fademodes_k18_stage_one_by_names
abbrev qv : Program := view RowZ.prog [51]
def loose : List PySem.Str := ("FadeError" :: "InvalidNumber" :: "InvalidCut" :: "InvalidStretch" :: "InvalidRange" :: "InvalidMove" :: "InvalidCount" :: "TooMany" :: "StateError" :: "DividedByZero" :: "is_integer" :: "is_number" :: "require_number" :: "divisor_of" :: "is_less" :: "Ratio" :: "extreme_of" :: "is_cut" :: "require_cut" :: "is_first" :: "is_ahead" :: "is_beyond" :: "is_above" :: "is_stretch" :: "require_stretch" :: "is_within" :: "mark_of" :: "as_cut" :: "Range" :: "require_range" :: "require_move" :: "whole_above" :: "Move" :: "_law_rng" :: "_law_draw" :: "_law_choice" :: "_law_plain" :: "_law_fraction" :: "_law_thing" :: "_law_ratios_right" :: "_law_cuts_right" :: "_law_ranges_right" :: "_law_moves_right" :: "_law_class_methods_right" :: "_law_right" :: "MOST_TIMES" :: [])
abbrev hk : Hook := DL.hookX asx factsB fn
theorem run (w : World) : HandSHeadRun.RunEq RowZ qv hk (DL.obX asx factsB fn) 20000 loose w := by
  intro os
  kernel_rfl
end K18
open PySem PySem.W PySem.Calls PyProof.Rows
theorem PySem.Challenge.cw_fademodes_k18_stage_one_by_names_holds : PySem.Challenge.rw_fademodes_k18_stage_one_by_names.Holds := by
  w_on; o_law
  refine HandSHeadRun.head_any (r := OpenLaw.row PySem.Challenge.rw_fademodes_k18_stage_one_by_names) (q := K18.qv) (H := K18.hk) (ob := DL.obX K18.asx K18.factsB K18.fn) (M := 20000) (loose := K18.loose) (d := HandSHeadRun.topDef (OpenLaw.row PySem.Challenge.rw_fademodes_k18_stage_one_by_names).prog 51) (kwd := []) (DL.obX_eq K18.asx K18.factsB K18.fn) (by kernel_rfl) (fun s => by kernel_rfl) K18.run (by kernel_rfl) (by kernel_rfl) (by kernel_rfl) (by rfl) (by first | assumption | decide +kernel) (by decide +kernel) ⟨rfl, rfl, rfl, rfl, rfl, by decide +kernel⟩ ?hw ?hc
  case hw => w_witness2
  case hc =>
    refine DL.walk_e (l := PySem.Challenge.rw_fademodes_k18_stage_one_by_names) (n := 63) (k := 14) (x := "_law_script") (m := K18.m_law) rfl (by decide) (by kernel_rfl) ⟨rfl, by decide, by decide⟩ (by kernel_rfl) ?F K18.law_yes
    intro w mg fa h Y G hmg0
    obtain ⟨K, KX, c⟩ := Y
    have hmg : mg ("law" : PySem.Str) = some (.ref fa) := by
      have e : (HandSHeadRun.topDef (OpenLaw.row PySem.Challenge.rw_fademodes_k18_stage_one_by_names).prog 51).name = ("law" : PySem.Str) := by kernel_rfl
      rw [← e]
      exact hmg0
    obtain ⟨fd, cl, hb, hF⟩ := K18.all_mk (P := (PySem.Challenge.rw_fademodes_k18_stage_one_by_names).prog) (w := w) KX G hmg c
    exact ⟨K, fd, cl, KX, hb, hF⟩

