import PyProof.Rows.All
import Wide.All
import OpenK.AllK
import Wide.FinOn
import HandS.ForMost
import HandS.Exc
import HandS.TryOnly
import HandS.TryMany
import HandS.ExcOwn
import HandS.WordsExc
import HandS.IsInst
import HandS.Flow
import HandS.Wide
import HandS.CallSlots
import HandS.Defaults
import HandS.SortInts
import HandS.Style
import HandS.ExcIs
import HandS.ExcField
import HandS.ExcInit
import HandS.Head0
import HandS.Head1
import HandS.Head2
import HandS.HeadEnd
import HandS.HeadHook1
import HandS.HeadHook2
import HandS.Head3
import KE.KStateDown
import KE.KOpsOwn
import HandS.SlotsOwn
import HandS.Star
import PySem.Challenge.RW_roundline_k41_whole_sums_of_forms
set_option Elab.async false
set_option linter.all false
set_option maxRecDepth 100000
set_option maxHeartbeats 4000000
set_option exponentiation.threshold 5000
/-! Sh: a program as a plain Lean function over data by value and a store of what may change. Part A: data, store, worlds. -/
namespace Sh
open PySem L2

/-- the program's classes by number: name, attributes in the order in which they are first stored -/
def ctab : List (Str × List Str) := [("Form", ["row"]), ("Plainest", ["period", "flags", "flipped", "below"]), ("Distances", ["plain"]), ("Plan", ["kept"]), ("LineWork", ["half", "stand", "hung", "lengths"]),
  ("Story", ["remainder", "stand", "hung"]), ("Line", ["length", "work", "done", "earlier", "marks"]), ("Desk", ["sheet", "shelf", "past"])]
def cName (c : Nat) : Str := (ctab.getD c ("", [])).1
def cFlds (c : Nat) : List Str := (ctab.getD c ("", [])).2
/-- the errors by number: name, the field -/
def xtab : List (Str × Str) := [("LineError", ""), ("NoForm", ""), ("NoDistance", ""), ("NoModulus", ""), ("NoClasses", ""), ("NoChanged", ""), ("NoLimit", ""), ("NoNumber", ""), ("NoTold", ""), ("NoWindow", ""), ("NoThing", ""),
  ("TooLong", ""), ("NoPlans", ""), ("NotFinite", ""), ("NothingToUndo", ""), ("NoName", ""), ("NoOrder", ""), ("NoRoom", ""), ("NotWhole", "number"), ("NoDeed", "index"), ("NoSighting", "index"), ("NoMark", "name"), ("NoText", "line")]
def xName (c : Nat) : Str := (xtab.getD c ("", "")).1
def xFld (c : Nat) : Str := (xtab.getD c ("", "")).2

/-- data by value; loc: the n-th thing of the store; scr: the script; exn: the error that a suite holds -/
inductive D where
  | non | bl (b : Bool) | int (i : Int) | str (x : Str)
  | tup (l : List D) | lst (l : List D)
  | ins (c : Nat) (l : List D)
  | loc (n : Nat)
  | scr (l : List Int)
  | edict
  | exn
  deriving Inhabited
/-- what may change -/
inductive SO where
  | lst (l : List D)
  | dict (l : List (Key × D))
  | ins (c : Nat) (l : List D)
abbrev Sto := List SO
abbrev Sg := List (Option D)
/-- a result: a value, an exception (its class, its fields), or nothing that is known -/
inductive Res (α : Type) where
  | ok (a : α) (st : Sto)
  | exc (c : Nat) (o : Option D) (st : Sto)
  | bad
inductive Flw where
  | nx (sg : Sg) (st : Sto)
  | ret (d : D) (st : Sto)
  | brk (sg : Sg) (st : Sto)
  | cnt (sg : Sg) (st : Sto)
  | exc (c : Nat) (o : Option D) (sg : Sg) (st : Sto)
  | bad
abbrev EF := Sg → Sto → Res D
abbrev TF := Sg → Sto → Res Bool
abbrev AF := Sg → Sto → Res (List D)
abbrev SF := Sg → Sto → Flw
abbrev FF := List D → Sto → Res D
def Res.bind {α β : Type} : Res α → (α → Sto → Res β) → Res β
  | .ok a st, k => k a st
  | .exc c fs st, _ => .exc c fs st
  | .bad, _ => .bad
@[simp] theorem Res.bind_ok {α β : Type} (a : α) (st : Sto) (k : α → Sto → Res β) : (Res.ok a st).bind k = k a st := rfl
@[simp] theorem Res.bind_exc {α β : Type} (c : Nat) (o : Option D) (st : Sto) (k : α → Sto → Res β) : (Res.exc c o st : Res α).bind k = .exc c o st := rfl
@[simp] theorem Res.bind_bad {α β : Type} (k : α → Sto → Res β) : (Res.bad : Res α).bind k = .bad := rfl
theorem Res.bind_cg {α β : Type} {x y : Res α} {k : α → Sto → Res β} (h : x = y) : x.bind k = y.bind k := by rw [h]

/-- a world: where the store's things lie, what is frozen, the heap -/
structure Hw where
  r : List Addr
  g : Hp
  h : Hp

section
variable (K : PySem.W.Frag) (mg : Str → Option Value)
mutual
inductive Rep (r : List Addr) (G : Hp) : D → V → Prop
  | non : Rep r G .non .non
  | bl (b : Bool) : Rep r G (.bl b) (.bl b)
  | int (i : Int) : Rep r G (.int i) (.int i)
  | str (x : Str) : Rep r G (.str x) (.str x)
  | tup {l : List D} {vs : List V} {a : Addr} : SqT K G a vs → Reps r G l vs → Rep r G (.tup l) (.ref a)
  | lst {l : List D} {vs : List V} {a : Addr} : G a = some (.lst vs) → Reps r G l vs → Rep r G (.lst l) (.ref a)
  | ins {c : Nat} {l : List D} {C a dx : Addr} {fs : List (Str × V)} : mg (cName c) = some (.ref C) → G a = some (.ins C dx fs) → fs.map (·.1) = (cFlds c).take l.length → Reps r G l (fs.map (·.2)) → Rep r G (.ins c l) (.ref a)
  | loc {n : Nat} {a : Addr} : r[n]? = some a → Rep r G (.loc n) (.ref a)
  | scr {l : List Int} {a : Addr} : SqL K G a (l.map V.int) → Rep r G (.scr l) (.ref a)
  | edict {a : Addr} : G a = some (.dK []) → Rep r G .edict (.ref a)
inductive Reps (r : List Addr) (G : Hp) : List D → List V → Prop
  | nil : Reps r G [] []
  | cons {d : D} {v : V} {l : List D} {vs : List V} : Rep r G d v → Reps r G l vs → Reps r G (d :: l) (v :: vs)
end
/-- a thing of the store at a -/
def SRep (r : List Addr) (G H : Hp) (a : Addr) : SO → Prop
  | .lst l => ∃ vs, H a = some (.lst vs) ∧ Reps K mg r G l vs
  | .dict l => ∃ kvs, H a = some (.dK kvs) ∧ kvs.map (·.1) = l.map (·.1) ∧ Reps K mg r G (l.map (·.2)) (kvs.map (·.2))
  | .ins c l => ∃ C dx fs, mg (cName c) = some (.ref C) ∧ H a = some (.ins C dx fs) ∧ fs.map (·.1) = (cFlds c).take l.length ∧ Reps K mg r G l (fs.map (·.2))
structure Rel (m : Hw) (st : Sto) : Prop where
  sub : ∀ a o, m.g a = some o → m.h a = some o
  len : m.r.length = st.length
  nd : m.r.Nodup
  off : ∀ a ∈ m.r, m.g a = none
  obj : ∀ (n : Nat) (a : Addr) (so : SO), m.r[n]? = some a → st[n]? = some so → SRep K mg m.r m.g m.h a so
end
structure Ext (m m' : Hw) : Prop where
  pre : ∃ t, m'.r = m.r ++ t
  g : ∀ a o, m.g a = some o → m'.g a = some o
  fr : ∀ a o, m.h a = some o → a ∉ m.r → m'.h a = some o ∧ a ∉ m'.r ∧ (m.g a = none → m'.g a = none)
theorem Ext.refl (m : Hw) : Ext m m := ⟨⟨[], by simp⟩, fun _ _ h => h, fun _ _ h n => ⟨h, n, fun z => z⟩⟩
theorem Ext.trans {m m1 m2 : Hw} (a : Ext m m1) (b : Ext m1 m2) : Ext m m2 := by
  obtain ⟨t, ht⟩ := a.pre
  obtain ⟨u, hu⟩ := b.pre
  refine ⟨⟨t ++ u, by rw [hu, ht, List.append_assoc]⟩, fun x o h => b.g x o (a.g x o h), fun x o h n => ?_⟩
  obtain ⟨h1, n1, g1⟩ := a.fr x o h n
  obtain ⟨h2, n2, g2⟩ := b.fr x o h1 n1
  exact ⟨h2, n2, fun z => g2 (g1 z)⟩
theorem Ext.at_ {m m' : Hw} (e : Ext m m') {n : Nat} {a : Addr} (h : m.r[n]? = some a) : m'.r[n]? = some a := by
  obtain ⟨t, ht⟩ := e.pre
  rw [ht, List.getElem?_append_left (List.getElem?_eq_some_iff.mp h).1]
  exact h
section
variable {K : PySem.W.Frag} {mg : Str → Option Value}
theorem sqT_mono {G G' : Hp} {a : Addr} {xs : List V} (e : ∀ a o, G a = some o → G' a = some o) (h : SqT K G a xs) : SqT K G' a xs := by
  rcases h with (h | ⟨o, h⟩) | h
  · exact .inl (.inl (e _ _ h))
  · exact .inl (.inr ⟨o, e _ _ h⟩)
  · exact .inr h
theorem sqL_mono {G G' : Hp} {a : Addr} {xs : List V} (e : ∀ a o, G a = some o → G' a = some o) (h : SqL K G a xs) : SqL K G' a xs := by
  rcases h with (h | ⟨o, h⟩) | h
  · exact .inl (.inl (e _ _ h))
  · exact .inl (.inr ⟨o, e _ _ h⟩)
  · exact .inr h
mutual
theorem Rep.mono' {r r' : List Addr} {G G' : Hp} (er : ∀ (n : Nat) (a : Addr), r[n]? = some a → r'[n]? = some a) (eg : ∀ a o, G a = some o → G' a = some o) : ∀ (d : D) (v : V), Rep K mg r G d v → Rep K mg r' G' d v
  | .non, _, h => by cases h; exact .non
  | .bl b, _, h => by cases h; exact .bl b
  | .int i, _, h => by cases h; exact .int i
  | .str x, _, h => by cases h; exact .str x
  | .tup l, _, h => by
    cases h with
    | tup h1 h2 => exact .tup (sqT_mono eg h1) (Reps.mono' er eg l _ h2)
  | .lst l, _, h => by
    cases h with
    | lst h1 h2 => exact .lst (eg _ _ h1) (Reps.mono' er eg l _ h2)
  | .ins c l, _, h => by
    cases h with
    | ins h1 h2 h3 h4 => exact .ins h1 (eg _ _ h2) h3 (Reps.mono' er eg l _ h4)
  | .loc n, _, h => by
    cases h with
    | loc h1 => exact .loc (er _ _ h1)
  | .scr l, _, h => by
    cases h with
    | scr h1 => exact .scr (sqL_mono eg h1)
  | .edict, _, h => by
    cases h with
    | edict h1 => exact .edict (eg _ _ h1)
  | .exn, _, h => by cases h
theorem Reps.mono' {r r' : List Addr} {G G' : Hp} (er : ∀ (n : Nat) (a : Addr), r[n]? = some a → r'[n]? = some a) (eg : ∀ a o, G a = some o → G' a = some o) : ∀ (l : List D) (vs : List V), Reps K mg r G l vs → Reps K mg r' G' l vs
  | [], _, h => by cases h; exact .nil
  | d :: l, _, h => by
    cases h with
    | cons h1 h2 => exact .cons (Rep.mono' er eg d _ h1) (Reps.mono' er eg l _ h2)
end
theorem Rep.mono {m m' : Hw} (e : Ext m m') {d : D} {v : V} (h : Rep K mg m.r m.g d v) : Rep K mg m'.r m'.g d v := Rep.mono' (fun _ _ => e.at_) e.g d v h
theorem Reps.mono {m m' : Hw} (e : Ext m m') {l : List D} {vs : List V} (h : Reps K mg m.r m.g l vs) : Reps K mg m'.r m'.g l vs := Reps.mono' (fun _ _ => e.at_) e.g l vs h
theorem Reps.length {r : List Addr} {G : Hp} : ∀ {l : List D} {vs : List V}, Reps K mg r G l vs → l.length = vs.length
  | [], _, h => by cases h; rfl
  | _ :: l, _, h => by
    cases h with
    | cons h1 h2 => simp [Reps.length h2]
theorem Reps.get {r : List Addr} {G : Hp} : ∀ {l : List D} {vs : List V} {i : Nat} {d : D}, Reps K mg r G l vs → l[i]? = some d → ∃ v, vs[i]? = some v ∧ Rep K mg r G d v
  | [], _, _, _, h, e => by simp at e
  | x :: l, _, 0, d, h, e => by
    cases h with
    | cons h1 h2 => simp at e; subst e; exact ⟨_, rfl, h1⟩
  | x :: l, _, i + 1, d, h, e => by
    cases h with
    | cons h1 h2 =>
      obtain ⟨v, a, b⟩ := Reps.get (i := i) h2 (by simpa using e)
      exact ⟨v, by simpa using a, b⟩
theorem Reps.get' {r : List Addr} {G : Hp} : ∀ {l : List D} {vs : List V} {i : Nat} {v : V}, Reps K mg r G l vs → vs[i]? = some v → ∃ d, l[i]? = some d ∧ Rep K mg r G d v
  | [], _, _, _, h, e => by cases h; simp at e
  | x :: l, _, 0, d, h, e => by
    cases h with
    | cons h1 h2 => simp at e; subst e; exact ⟨_, rfl, h1⟩
  | x :: l, _, i + 1, d, h, e => by
    cases h with
    | cons h1 h2 =>
      obtain ⟨v, a, b⟩ := Reps.get' (i := i) h2 (by simpa using e)
      exact ⟨v, by simpa using a, b⟩
theorem Reps.append {r : List Addr} {G : Hp} : ∀ {l l' : List D} {vs vs' : List V}, Reps K mg r G l vs → Reps K mg r G l' vs' → Reps K mg r G (l ++ l') (vs ++ vs')
  | [], _, _, _, h, h' => by cases h; exact h'
  | x :: l, _, _, _, h, h' => by
    cases h with
    | cons h1 h2 => exact .cons h1 (Reps.append h2 h')
theorem Reps.one {r : List Addr} {G : Hp} {d : D} {v : V} (h : Rep K mg r G d v) : Reps K mg r G [d] [v] := .cons h .nil
theorem Reps.take {r : List Addr} {G : Hp} : ∀ {l : List D} {vs : List V} (n : Nat), Reps K mg r G l vs → Reps K mg r G (l.take n) (vs.take n)
  | _, _, 0, h => .nil
  | [], _, n + 1, h => by cases h; exact .nil
  | x :: l, _, n + 1, h => by
    cases h with
    | cons h1 h2 => exact .cons h1 (Reps.take n h2)
theorem Reps.drop {r : List Addr} {G : Hp} : ∀ {l : List D} {vs : List V} (n : Nat), Reps K mg r G l vs → Reps K mg r G (l.drop n) (vs.drop n)
  | _, _, 0, h => h
  | [], _, n + 1, h => by cases h; exact .nil
  | x :: l, _, n + 1, h => by
    cases h with
    | cons h1 h2 => exact Reps.drop n h2
theorem Reps.set {r : List Addr} {G : Hp} {d : D} {v : V} (hd : Rep K mg r G d v) : ∀ {l : List D} {vs : List V} (n : Nat), Reps K mg r G l vs → Reps K mg r G (l.set n d) (vs.set n v)
  | [], _, n, h => by cases h; exact .nil
  | x :: l, _, 0, h => by
    cases h with
    | cons h1 h2 => exact .cons hd h2
  | x :: l, _, n + 1, h => by
    cases h with
    | cons h1 h2 => exact .cons h1 (Reps.set hd n h2)

/-! exceptions: the class, and the own dict with one field, frozen -/
def XRep (K : PySem.W.Frag) (mg : Str → Option Value) (m : Hw) (c : Nat) (o : Option D) (cls : Value) (dx : Option Addr) : Prop :=
  ∃ C, mg (xName c) = some (.ref C) ∧ cls = .ref C ∧ match o with
    | none => dx = none
    | some d => ∃ a v, dx = some a ∧ m.g a = some (.xd [(xFld c, v)]) ∧ Rep K mg m.r m.g d v
theorem XRep.mono {m m' : Hw} (e : Ext m m') {c : Nat} {o : Option D} {cls : Value} {dx : Option Addr} (h : XRep K mg m c o cls dx) : XRep K mg m' c o cls dx := by
  obtain ⟨C, h1, h2, h3⟩ := h
  refine ⟨C, h1, h2, ?_⟩
  cases o with
  | none => exact h3
  | some d =>
    obtain ⟨a, v, q1, q2, q3⟩ := h3
    exact ⟨a, v, q1, e.g _ _ q2, q3.mono e⟩

/-! the slots -/
/-- the wish about errors; the error that is held, if any -/
structure Ex where
  i : Nat
  a : Addr
  cls : Value
  d : Option Addr
  c : Nat
  o : Option D
structure We where
  w : WX
  e : Option Ex
def SlRep (K : PySem.W.Frag) (mg : Str → Option Value) (e : Option Ex) (m : Hw) (j : Nat) (d : D) (v : V) : Prop := Rep K mg m.r m.g d v ∨ (d = .exn ∧ ∃ x, e = some x ∧ j = x.i ∧ v = .ref x.a ∧ XRep K mg m x.c x.o x.cls x.d)
def SgRep (K : PySem.W.Frag) (mg : Str → Option Value) (e : Option Ex) (m : Hw) (sg : Sg) (σ : St) : Prop := sg.length = σ.length ∧ ∀ (i : Nat) (d : D), sg[i]? = some (some d) → ∃ v, σ[i]? = some (some v) ∧ SlRep K mg e m i d v
variable {x : Option Ex}
theorem SlRep.mono {m m' : Hw} (e : Ext m m') {d : D} {v : V} {j : Nat} (h : SlRep K mg x m j d v) : SlRep K mg x m' j d v := h.elim (fun h => .inl (h.mono e)) fun ⟨h1, y, h2, h3, h4, h5⟩ => .inr ⟨h1, y, h2, h3, h4, h5.mono e⟩
theorem SlRep.none_ {m : Hw} {d : D} {v : V} {j : Nat} (h : SlRep K mg none m j d v) : Rep K mg m.r m.g d v := h.elim id fun ⟨_, _, h, _⟩ => nomatch h
theorem SgRep.mono {m m' : Hw} (e : Ext m m') {sg : Sg} {σ : St} (h : SgRep K mg x m sg σ) : SgRep K mg x m' sg σ := ⟨h.1, fun i d q => let ⟨v, a, b⟩ := h.2 i d q; ⟨v, a, b.mono e⟩⟩
theorem SgRep.set {m : Hw} {sg : Sg} {σ : St} (h : SgRep K mg x m sg σ) (i : Nat) {d : D} {v : V} (r : SlRep K mg x m i d v) : SgRep K mg x m (sg.set i (some d)) (σ.set i (some v)) := by
  refine ⟨by simpa using h.1, fun j d' q => ?_⟩
  by_cases e : i = j
  · subst e
    by_cases hl : i < sg.length
    · rw [List.getElem?_set_self hl] at q
      cases q
      exact ⟨v, by rw [List.getElem?_set_self (by rw [← h.1]; exact hl)], r⟩
    · rw [List.getElem?_eq_none (by simpa using hl)] at q; cases q
  · rw [List.getElem?_set_ne e] at q ⊢
    exact h.2 j d' q
theorem SgRep.held {m : Hw} {sg : Sg} {σ : St} (h : SgRep K mg none m sg σ) : SgRep K mg x m sg σ := ⟨h.1, fun i d q => let ⟨v, a, b⟩ := h.2 i d q; ⟨v, a, .inl b.none_⟩⟩
/-- the held error's slot is emptied -/
theorem SgRep.unheld {y : Ex} {m : Hw} {sg : Sg} {σ : St} (h : SgRep K mg (some y) m sg σ) : SgRep K mg none m (sg.set y.i none) (σ.set y.i none) := by
  refine ⟨by simpa using h.1, fun j d' q => ?_⟩
  by_cases e : y.i = j
  · subst e
    by_cases hl : y.i < sg.length
    · rw [List.getElem?_set_self hl] at q; cases q
    · rw [List.getElem?_eq_none (by simpa using hl)] at q; cases q
  · rw [List.getElem?_set_ne e] at q ⊢
    obtain ⟨v, h1, h2⟩ := h.2 j d' q
    refine ⟨v, h1, h2.elim .inl fun ⟨_, z, z1, z2, _⟩ => ?_⟩
    cases z1
    exact absurd z2.symm e
theorem SgRep.unset {m : Hw} {sg : Sg} {σ : St} (h : SgRep K mg x m sg σ) (i : Nat) : SgRep K mg x m (sg.set i none) (σ.set i none) := by
  refine ⟨by simpa using h.1, fun j d' q => ?_⟩
  by_cases e : i = j
  · subst e
    by_cases hl : i < sg.length
    · rw [List.getElem?_set_self hl] at q; cases q
    · rw [List.getElem?_eq_none (by simpa using hl)] at q; cases q
  · rw [List.getElem?_set_ne e] at q ⊢
    exact h.2 j d' q
/-- less is known -/
theorem SgRep.weak {m : Hw} {sg : Sg} {σ : St} (h : SgRep K mg x m sg σ) (i : Nat) : SgRep K mg x m (sg.set i none) σ := by
  refine ⟨by simpa using h.1, fun j d' q => ?_⟩
  by_cases e : i = j
  · subst e
    by_cases hl : i < sg.length
    · rw [List.getElem?_set_self hl] at q; cases q
    · rw [List.getElem?_eq_none (by simpa using hl)] at q; cases q
  · rw [List.getElem?_set_ne e] at q
    exact h.2 j d' q

/-! what is wanted behind -/
def Post {α β : Type} (K : PySem.W.Frag) (mg : Str → Option Value) (W : WX) (m : Hw) (σ : St) (R : Hw → α → β → Prop) (Q : β → Hp → Prop) : Res α → Prop
  | .ok a st => ∀ m' v, Ext m m' → Rel K mg m' st → R m' a v → Q v m'.h
  | .exc c fs st => ∀ m' cls dx, Ext m m' → Rel K mg m' st → XRep K mg m' c fs cls dx → W cls dx σ m'.h
  | .bad => False
abbrev RD (K : PySem.W.Frag) (mg : Str → Option Value) : Hw → D → V → Prop := fun m d v => Rep K mg m.r m.g d v
abbrev RDs (K : PySem.W.Frag) (mg : Str → Option Value) : Hw → List D → List V → Prop := fun m d v => Reps K mg m.r m.g d v
abbrev RB : Hw → Bool → Bool → Prop := fun _ a b => a = b
section
variable {α β γ δ : Type} {W : WX} {m m1 : Hw} {σ : St} {R : Hw → α → β → Prop} {R' : Hw → γ → δ → Prop} {Q : δ → Hp → Prop} {Q1 : β → Hp → Prop} {x : Res α} {k : α → Sto → Res γ}
theorem Post.mono {y : Res γ} (h : Post K mg W m σ R' Q y) (e : Ext m m1) : Post K mg W m1 σ R' Q y := by
  cases y with
  | ok a st => exact fun m' v e' r q => h m' v (e.trans e') r q
  | exc c fs st => exact fun m' cls dx e' r q => h m' cls dx (e.trans e') r q
  | bad => exact h
theorem Post.bindc (hp : Post K mg W m σ R' Q (x.bind k)) (h : ∀ m1 a v st1, Ext m m1 → Rel K mg m1 st1 → R m1 a v → Post K mg W m1 σ R' Q (k a st1) → Q1 v m1.h) : Post K mg W m σ R Q1 x := by
  cases x with
  | ok a st => exact fun m' v e r q => h m' a v st e r q (Post.mono hp e)
  | exc c fs st => exact hp
  | bad => exact hp
theorem Post.okc {a : γ} {st : Sto} {v : δ} (hp : Post K mg W m σ R' Q (.ok a st)) (r : Rel K mg m st) (q : R' m a v) : Q v m.h := hp m v (Ext.refl m) r q
end
def TOf {α β : Type} (K : PySem.W.Frag) (mg : Str → Option Value) (W : We) (R : Hw → α → β → Prop) (f : Sg → Sto → Res α) : St → Hp → (β → Hp → Prop) → Prop := fun σ H Q =>
  ∃ m sg st, m.h = H ∧ Rel K mg m st ∧ SgRep K mg W.e m sg σ ∧ Post K mg W.w m σ R Q (f sg st)
def PostS (K : PySem.W.Frag) (mg : Str → Option Value) (W : We) (m : Hw) (D : Ends) : Flw → Prop
  | .nx sg st => ∀ m' σ, Ext m m' → Rel K mg m' st → SgRep K mg W.e m' sg σ → D.nx σ m'.h
  | .ret d st => ∀ m' v, Ext m m' → Rel K mg m' st → Rep K mg m'.r m'.g d v → D.rt v m'.h
  | .brk sg st => ∀ m' σ, Ext m m' → Rel K mg m' st → SgRep K mg W.e m' sg σ → D.bk σ m'.h
  | .cnt sg st => ∀ m' σ, Ext m m' → Rel K mg m' st → SgRep K mg W.e m' sg σ → D.ct σ m'.h
  | .exc c fs sg st => ∀ m' σ cls dx, Ext m m' → Rel K mg m' st → SgRep K mg W.e m' sg σ → XRep K mg m' c fs cls dx → W.w cls dx σ m'.h
  | .bad => False
theorem PostS.mono {W : We} {m m1 : Hw} {D : Ends} {y : Flw} (h : PostS K mg W m D y) (e : Ext m m1) : PostS K mg W m1 D y := by
  cases y with
  | nx sg st => exact fun m' v e' r q => h m' v (e.trans e') r q
  | ret d st => exact fun m' v e' r q => h m' v (e.trans e') r q
  | brk sg st => exact fun m' v e' r q => h m' v (e.trans e') r q
  | cnt sg st => exact fun m' v e' r q => h m' v (e.trans e') r q
  | exc c fs sg st => exact fun m' v cls dx e' r q => h m' v cls dx (e.trans e') r q
  | bad => exact h
def SOf (K : PySem.W.Frag) (mg : Str → Option Value) (W : We) (g : SF) : TS := fun D σ H => ∃ m sg st, m.h = H ∧ Rel K mg m st ∧ SgRep K mg W.e m sg σ ∧ PostS K mg W m D (g sg st)
end

/-! judgements -/
def SE (X : Cx) (W : We) (e : Expr) (f : EF) : Prop := PE X e (TOf X.K X.mg W (RD X.K X.mg) f)
def SB (X : Cx) (W : We) (e : Expr) (f : TF) : Prop := PT X e (TOf X.K X.mg W RB f)
def SA (X : Cx) (W : We) (es : List Expr) (f : AF) : Prop := PA X es (TOf X.K X.mg W (RDs X.K X.mg) f)
def SS (X : Cx) (W : We) (s : Stmt) (g : SF) : Prop := PS X s (SOf X.K X.mg W g)
def SSs (X : Cx) (W : We) (s : List Stmt) (g : SF) : Prop := PSs X s (SOf X.K X.mg W g)
theorem pe_weak {X : Cx} {e : Expr} {t t' : TE} (h : PE X e t) (i : ∀ σ H Q, t' σ H Q → t σ H Q) : PE X e t' := ⟨fun pins s σ H Q I q => h.run pins s σ H Q I (i σ H Q q)⟩
theorem pt_weak {X : Cx} {e : Expr} {t t' : TT} (h : PT X e t) (i : ∀ σ H Q, t' σ H Q → t σ H Q) : PT X e t' := ⟨fun pins s σ H Q I q => h.run pins s σ H Q I (i σ H Q q)⟩
theorem pa_weak {X : Cx} {e : List Expr} {t t' : TA} (h : PA X e t) (i : ∀ σ H Q, t' σ H Q → t σ H Q) : PA X e t' := ⟨fun pos pins s σ H Q I q => h.run pos pins s σ H Q I (i σ H Q q)⟩
theorem ps_weak {X : Cx} {e : Stmt} {t t' : TS} (h : PS X e t) (i : ∀ D σ H, t' D σ H → t D σ H) : PS X e t' := ⟨fun pins s σ H D I q => h.run pins s σ H D I (i D σ H q)⟩
theorem pss_weak {X : Cx} {e : List Stmt} {t t' : TS} (h : PSs X e t) (i : ∀ D σ H, t' D σ H → t D σ H) : PSs X e t' := ⟨fun pins s σ H D I q => h.run pins s σ H D I (i D σ H q)⟩
end Sh
/-! Part B: what is laid, what is written; expressions. -/
namespace Sh
open PySem L2
section
variable {K : PySem.W.Frag} {mg : Str → Option Value} {m : Hw} {st : Sto}
theorem Rel.live (R : Rel K mg m st) {a : Addr} (h : a ∈ m.r) : ∃ o, m.h a = some o := by
  obtain ⟨n, hn, e⟩ := List.mem_iff_getElem.mp h
  have hs : n < st.length := by rw [← R.len]; exact hn
  have q := R.obj n a st[n] (by rw [List.getElem?_eq_getElem hn, e]) (List.getElem?_eq_getElem hs)
  cases e : st[n] with
  | lst l => rw [e] at q; obtain ⟨vs, q, _⟩ := q; exact ⟨_, q⟩
  | dict l => rw [e] at q; obtain ⟨vs, q, _⟩ := q; exact ⟨_, q⟩
  | ins c l => rw [e] at q; obtain ⟨_, _, _, _, q, _⟩ := q; exact ⟨_, q⟩
theorem Rel.gnone (R : Rel K mg m st) {p : Addr} (h : m.h p = none) : m.g p = none := by
  cases e : m.g p with
  | none => rfl
  | some o => have := R.sub p o e; rw [h] at this; cases this
theorem Rel.fresh (R : Rel K mg m st) {p : Addr} (h : m.h p = none) : p ∉ m.r := fun z => by
  obtain ⟨o, e⟩ := R.live z
  rw [h] at e; cases e
theorem SRep.mono' {r r' : List Addr} {G G' H H' : Hp} {a : Addr} (er : ∀ (n : Nat) (a : Addr), r[n]? = some a → r'[n]? = some a) (eg : ∀ a o, G a = some o → G' a = some o) (eh : ∀ o, H a = some o → H' a = some o) : ∀ {so : SO}, SRep K mg r G H a so → SRep K mg r' G' H' a so
  | .lst l, ⟨vs, h1, h2⟩ => ⟨vs, eh _ h1, Reps.mono' er eg _ _ h2⟩
  | .dict l, ⟨vs, h1, h2, h3⟩ => ⟨vs, eh _ h1, h2, Reps.mono' er eg _ _ h3⟩
  | .ins c l, ⟨C, dx, fs, h1, h2, h3, h4⟩ => ⟨C, dx, fs, h1, eh _ h2, h3, Reps.mono' er eg _ _ h4⟩

/-! laid by value -/
def Hw.lay (m : Hw) (p : Addr) (o : HO) : Hw := ⟨m.r, upd m.g p o, upd m.h p o⟩
theorem Ext.lay (R : Rel K mg m st) {p : Addr} {o : HO} (h : m.h p = none) : Ext m (m.lay p o) := by
  refine ⟨⟨[], by simp [Hw.lay]⟩, fun a u e => ?_, fun a u e n => ⟨?_, n, fun z => ?_⟩⟩
  · have : a ≠ p := ne_of_none e (R.gnone h)
    show upd m.g p o a = some u
    rw [upd_ne this]; exact e
  · show upd m.h p o a = some u
    rw [upd_ne (ne_of_none e h)]; exact e
  · show upd m.g p o a = none
    rw [upd_ne (ne_of_none e h)]; exact z
theorem Rel.lay (R : Rel K mg m st) {p : Addr} {o : HO} (h : m.h p = none) : Rel K mg (m.lay p o) st := by
  refine ⟨fun a u e => ?_, R.len, R.nd, fun a z => ?_, fun n a so e1 e2 => ?_⟩
  · show upd m.h p o a = some u
    have e : upd m.g p o a = some u := e
    by_cases q : a = p
    · subst q; rw [upd_same] at e ⊢; exact e
    · rw [upd_ne q] at e ⊢; exact R.sub a u e
  · show upd m.g p o a = none
    have : a ≠ p := fun q => R.fresh h (q ▸ z)
    rw [upd_ne this]; exact R.off a z
  · refine (R.obj n a so e1 e2).mono' (fun _ _ z => z) (Ext.lay R h).g fun u q => ?_
    show upd m.h p o a = some u
    rw [upd_ne (ne_of_none q h)]; exact q
theorem Post.lay {α : Type} {W : We} {σ : St} {R' : Hw → D → V → Prop} {Q : VK} {d : D} {o : HO} (hp : Post K mg W.w m σ R' Q (.ok d st)) (R : Rel K mg m st) (hr : ∀ p, m.h p = none → R' (m.lay p o) d (.ref p)) : ∀ p, m.h p = none → Q (.ref p) (upd m.h p o) := fun p h =>
  hp (m.lay p o) (.ref p) (Ext.lay R h) (R.lay h) (hr p h)
/-! laid as a thing of the store -/
def Hw.new (m : Hw) (p : Addr) (o : HO) : Hw := ⟨m.r ++ [p], m.g, upd m.h p o⟩
theorem Ext.new (R : Rel K mg m st) {p : Addr} {o : HO} (h : m.h p = none) : Ext m (m.new p o) := by
  refine ⟨⟨[p], rfl⟩, fun a u e => e, fun a u e n => ⟨?_, ?_, fun z => z⟩⟩
  · show upd m.h p o a = some u
    rw [upd_ne (ne_of_none e h)]; exact e
  · show a ∉ m.r ++ [p]
    have : a ≠ p := ne_of_none e h
    simp [n, this]
theorem Rel.new (R : Rel K mg m st) {p : Addr} {o : HO} {so : SO} (h : m.h p = none) (q : SRep K mg (m.r ++ [p]) m.g (upd m.h p o) p so) : Rel K mg (m.new p o) (st ++ [so]) := by
  refine ⟨fun a u e => ?_, by simp [Hw.new, R.len], ?_, fun a z => ?_, fun n a so' e1 e2 => ?_⟩
  · show upd m.h p o a = some u
    rw [upd_ne (ne_of_none (R.sub a u e) h)]; exact R.sub a u e
  · show (m.r ++ [p]).Nodup
    rw [List.nodup_append]
    refine ⟨R.nd, by simp, fun a ha b hb e => ?_⟩
    have hb' : b = p := by simpa using hb
    subst e
    exact R.fresh h (hb' ▸ ha)
  · have z' : a ∈ m.r ++ [p] := z
    rcases List.mem_append.mp z' with z' | z'
    · exact R.off a z'
    · have : a = p := by simpa using z'
      rw [this]; exact R.gnone h
  · have e1 : (m.r ++ [p])[n]? = some a := e1
    by_cases hn : n < m.r.length
    · rw [List.getElem?_append_left hn] at e1
      rw [List.getElem?_append_left (by rw [← R.len]; exact hn)] at e2
      refine (R.obj n a so' e1 e2).mono' (fun _ _ z => (Ext.new (o := o) R h).at_ z) (fun _ _ z => z) fun u q => ?_
      show upd m.h p o a = some u
      rw [upd_ne (ne_of_none q h)]; exact q
    · have hl := R.len
      rw [List.getElem?_append_right (by omega)] at e1 e2
      have h0 : n - m.r.length = 0 := by
        cases z : n - m.r.length with
        | zero => rfl
        | succ k => rw [z] at e1; simp at e1
      have h0' : n - st.length = 0 := by omega
      rw [h0] at e1; rw [h0'] at e2
      simp at e1 e2
      subst e1; subst e2
      exact q
/-! a thing of the store is written -/
theorem nodup_ix' {N : List Addr} (hN : N.Nodup) {i j : Nat} {x : Addr} (a : N[i]? = some x) (b : N[j]? = some x) : i = j := by
  obtain ⟨h1, e1⟩ := List.getElem?_eq_some_iff.mp a
  obtain ⟨h2, e2⟩ := List.getElem?_eq_some_iff.mp b
  exact (List.getElem_inj hN).mp (e1.trans e2.symm)
def Hw.put (m : Hw) (p : Addr) (o : HO) : Hw := ⟨m.r, m.g, upd m.h p o⟩
theorem Ext.put {p : Addr} {o : HO} (h : p ∈ m.r) : Ext m (m.put p o) := by
  refine ⟨⟨[], by simp [Hw.put]⟩, fun a u e => e, fun a u e n => ⟨?_, n, fun z => z⟩⟩
  show upd m.h p o a = some u
  have : a ≠ p := fun z => n (z ▸ h)
  rw [upd_ne this]; exact e
theorem Rel.put (R : Rel K mg m st) {n : Nat} {p : Addr} {o : HO} {so : SO} (e : m.r[n]? = some p) (q : SRep K mg m.r m.g (upd m.h p o) p so) : Rel K mg (m.put p o) (st.set n so) := by
  have hm : p ∈ m.r := List.mem_of_getElem? e
  refine ⟨fun a u e => ?_, by simp [Hw.put, R.len], R.nd, R.off, fun i a so' e1 e2 => ?_⟩
  · show upd m.h p o a = some u
    have : a ≠ p := fun z => by have := R.off p hm; rw [← z] at this; rw [show m.g a = some u from e] at this; cases this
    rw [upd_ne this]; exact R.sub a u e
  · have e1 : m.r[i]? = some a := e1
    by_cases hi : i = n
    · subst hi
      rw [e] at e1; cases e1
      have hl : i < st.length := by rw [← R.len]; exact (List.getElem?_eq_some_iff.mp e).1
      rw [List.getElem?_set_self hl] at e2
      cases e2
      exact q
    · rw [List.getElem?_set_ne (Ne.symm hi)] at e2
      have : a ≠ p := fun z => hi (nodup_ix' R.nd e1 (z ▸ e))
      refine (R.obj i a so' e1 e2).mono' (fun _ _ z => z) (fun _ _ z => z) fun u q => ?_
      show upd m.h p o a = some u
      rw [upd_ne this]; exact q
end

/-! expressions -/
section
variable {X : Cx} {W : We} {a b c e : Expr} {fa fb fc f : EF} {pos : Pos}
@[simp] def fVar (i : Nat) : EF := fun sg st => match sg[i]? with
  | some (some .exn) => .bad
  | some (some d) => .ok d st
  | _ => .bad
@[simp] def fC (d : D) : EF := fun _ st => .ok d st
@[simp] def fBin (sem : D → D → Sto → Res D) (fa fb : EF) : EF := fun sg st => (fa sg st).bind fun x st1 => (fb sg st1).bind fun y st2 => sem x y st2
@[simp] def fUn (sem : D → Sto → Res D) (fa : EF) : EF := fun sg st => (fa sg st).bind fun x st1 => sem x st1
theorem se_var {i : Nat} {x : Str} (h : PE X (.Name x pos) (tVar i)) : SE X W (.Name x pos) (fVar i) := pe_weak h fun σ H Q ⟨m, sg, st, e, rm, rs, hp⟩ => by
  subst e
  unfold fVar at hp
  split at hp
  · exact False.elim hp
  · rename_i d hd q
    obtain ⟨v, h1, h2⟩ := rs.2 i d q
    exact ⟨v, h1, hp.okc rm (h2.elim id fun z => (hd z.1).elim)⟩
  · exact False.elim hp
theorem se_c {d : D} {v : V} (h : PE X e (tC v)) (r : ∀ m st, Rel X.K X.mg m st → Rep X.K X.mg m.r m.g d v) : SE X W e (fC d) := pe_weak h fun σ H Q ⟨m, sg, st, e, rm, rs, hp⟩ => by
  subst e
  exact hp.okc rm (r m st rm)
theorem se_int {i : Int} {j : Nat} : SE X W (.Constant (.int i) j pos) (fC (.int i)) := se_c pe_int fun _ _ _ => .int i
theorem se_bl {i : Bool} {j : Nat} : SE X W (.Constant (.bool i) j pos) (fC (.bl i)) := se_c pe_bl fun _ _ _ => .bl i
theorem se_non {j : Nat} : SE X W (.Constant .none j pos) (fC .non) := se_c pe_non fun _ _ _ => .non
theorem se_str {i : Str} {j : Nat} : SE X W (.Constant (.str i) j pos) (fC (.str i)) := se_c pe_str fun _ _ _ => .str i
/-- what a value-level rule wants of the meaning -/
def Fits2 (X : Cx) (W : We) (r : R2) (sem : D → D → Sto → Res D) : Prop := ∀ (m : Hw) (st : Sto) (σ : St) (x y : D) (v w : V) (Q : VK), Rel X.K X.mg m st → Rep X.K X.mg m.r m.g x v → Rep X.K X.mg m.r m.g y w → Post X.K X.mg W.w m σ (RD X.K X.mg) Q (sem x y st) → r v w m.h Q
def Fits1 (X : Cx) (W : We) (r : V → Hp → VK → Prop) (sem : D → Sto → Res D) : Prop := ∀ (m : Hw) (st : Sto) (σ : St) (x : D) (v : V) (Q : VK), Rel X.K X.mg m st → Rep X.K X.mg m.r m.g x v → Post X.K X.mg W.w m σ (RD X.K X.mg) Q (sem x st) → r v m.h Q
theorem tOp_of {r : R2} {sem : D → D → Sto → Res D} (hs : Fits2 X W r sem) {σ : St} {H : Hp} {Q : VK} (h : TOf X.K X.mg W (RD X.K X.mg) (fBin sem fa fb) σ H Q) : tOp r (TOf X.K X.mg W (RD X.K X.mg) fa) (TOf X.K X.mg W (RD X.K X.mg) fb) σ H Q := by
  obtain ⟨m, sg, st, rfl, rm, rs, hp⟩ := h
  exact ⟨m, sg, st, rfl, rm, rs, hp.bindc fun m1 x v st1 e1 r1 q1 hp1 => ⟨m1, sg, st1, rfl, r1, rs.mono e1, hp1.bindc fun m2 y w st2 e2 r2 q2 hp2 => hs m2 st2 σ x y v w Q r2 (q1.mono e2) q2 hp2⟩⟩
theorem se_bin {op : Operator} {r : R2} {sem : D → D → Sto → Res D} (ho : OpR X (binaryOp op) r) (hs : Fits2 X W r sem) (ha : SE X W a fa) (hb : SE X W b fb) : SE X W (.BinOp a op b pos) (fBin sem fa fb) :=
  pe_weak (pe_op ho ha hb) fun _ _ _ h => tOp_of hs h
theorem se_un {op : UnaryOp} {r : V → Hp → VK → Prop} {sem : D → Sto → Res D} (ho : UnR X (unaryOp op) r) (hs : Fits1 X W r sem) (ha : SE X W a fa) : SE X W (.UnaryOp op a pos) (fUn sem fa) :=
  pe_weak (pe_un ho ha) fun σ H Q ⟨m, sg, st, e, rm, rs, hp⟩ => ⟨m, sg, st, e, rm, rs, hp.bindc fun m1 x v st1 e1 r1 q1 hp1 => hs m1 st1 σ x v Q r1 q1 hp1⟩
theorem se_cmp {op : CmpOp} {r : R2} {sem : D → D → Sto → Res D} (ho : OpR X (compareOp op) r) (hs : Fits2 X W r sem) (ha : SE X W a fa) (hb : SE X W b fb) (hm : behindInMarks op b = false) : SE X W (.Compare a [op] [b] pos) (fBin sem fa fb) :=
  pe_weak (pe_cmpR ho ha hb hm) fun _ _ _ h => tOp_of hs h

/-! tests -/
def dBool : D → Option Bool
  | .bl b => some b
  | _ => none
@[simp] def tOfE (fa : EF) : TF := fun sg st => (fa sg st).bind fun x st1 => match x with
  | .bl b => .ok b st1
  | _ => .bad
/-- a comparison as a test -/
theorem sb_cmp {op : CmpOp} {r : R2} {sem : D → D → Sto → Res D} (ho : OpR X (compareOp op) r) (hs : Fits2 X W r sem) (ha : SE X W a fa) (hb : SE X W b fb) (hm : behindInMarks op b = false) : SB X W (.Compare a [op] [b] pos) (tOfE (fBin sem fa fb)) :=
  pt_weak (pt_cmpR ho ha hb hm) fun σ H Q ⟨m, sg, st, e, rm, rs, hp⟩ => tOp_of (sem := sem) hs ⟨m, sg, st, e, rm, rs, hp.bindc fun m1 x v st1 e1 r1 q1 hp1 => by
    split at hp1
    · cases q1; exact ⟨_, rfl, hp1.okc r1 rfl⟩
    · exact False.elim hp1⟩
/-- any value's truth -/
def dTru : D → Sto → Option Bool
  | .non, _ => some false
  | .bl b, _ => some b
  | .int i, _ => some (i != 0)
  | .str x, _ => if x.length ≤ 16777216 then some ((x.length : Int) != 0) else none
  | .tup l, _ => some !l.isEmpty
  | .lst l, _ => some !l.isEmpty
  | .loc n, st => match st[n]? with
    | some (.lst l) => some !l.isEmpty
    | some (.dict l) => some !l.isEmpty
    | _ => none
  | .edict, _ => some false
  | _, _ => none
theorem tru_of {m : Hw} {st : Sto} {d : D} {v : V} {k : Bool} (rm : Rel X.K X.mg m st) (q : Rep X.K X.mg m.r m.g d v) (e : dTru d st = some k) : TruV X.K v m.h k := by
  have emp : ∀ {l : List D} {vs : List V}, Reps X.K X.mg m.r m.g l vs → (!l.isEmpty) = !vs.isEmpty := fun h => by cases h <;> rfl
  unfold dTru at e
  split at e
  · cases q; exact (Option.some.inj e).symm
  · cases q; exact (Option.some.inj e).symm
  · cases q; exact (Option.some.inj e).symm
  · cases q
    split at e
    · rename_i h
      exact ⟨by rw [sizeLine_eq]; exact h, (Option.some.inj e).symm⟩
    · cases e
  · cases q with
    | tup h1 h2 => exact .inr (.inl ⟨_, sqT_mono rm.sub h1, by rw [← Option.some.inj e]; exact emp h2⟩)
  · cases q with
    | lst h1 h2 => exact .inl ⟨_, .of (rm.sub _ _ h1), by rw [← Option.some.inj e]; exact emp h2⟩
  · cases q with
    | loc h1 =>
      split at e
      · rename_i h2
        obtain ⟨vs, h3, h4⟩ := rm.obj _ _ _ h1 h2
        exact .inl ⟨_, .of h3, by rw [← Option.some.inj e]; exact emp h4⟩
      · rename_i l h2
        obtain ⟨kvs, h3, h4, _⟩ := rm.obj _ _ _ h1 h2
        refine .inr (.inr ⟨_, h3, ?_⟩)
        rw [← Option.some.inj e]
        have : kvs.length = l.length := by have := congrArg List.length h4; simpa using this
        cases l <;> cases kvs <;> simp_all
      · cases e
  · cases q with
    | edict h1 => exact .inr (.inr ⟨_, rm.sub _ _ h1, (Option.some.inj e).symm⟩)
  · cases e
@[simp] def tTru (fa : EF) : TF := fun sg st => (fa sg st).bind fun x st1 => match dTru x st1 with
  | some b => .ok b st1
  | none => .bad
theorem sb_tru (ha : SE X W a fa) (he : ∀ whole, isTrue a X.env whole = (do let v ← whole; standAt a.pos; holding [v] (truthy v))) : SB X W a (tTru fa) :=
  pt_weak (pt_truth ha he) fun σ H Q ⟨m, sg, st, e, rm, rs, hp⟩ => ⟨m, sg, st, e, rm, rs, hp.bindc fun m1 x v st1 e1 r1 q1 hp1 => by
    split at hp1
    · rename_i b h
      exact ⟨b, tru_of r1 q1 h, hp1.okc r1 rfl⟩
    · exact False.elim hp1⟩
def SW (X : Cx) (W : We) (e : Expr) (f : TF) : Prop := PW X e (TOf X.K X.mg W RB f)
theorem pw_weak {X : Cx} {e : Expr} {t t' : TT} (h : PW X e t) (i : ∀ σ H Q, t' σ H Q → t σ H Q) : PW X e t' := ⟨fun wh pins s σ H Q I q => h.run wh pins s σ H Q I (i σ H Q q)⟩
@[simp] def tAnd' (t u : TF) : TF := fun sg st => (t sg st).bind fun b st1 => if b = true then u sg st1 else .ok false st1
@[simp] def tOr' (t u : TF) : TF := fun sg st => (t sg st).bind fun b st1 => if b = true then .ok true st1 else u sg st1
@[simp] def tNot' (t : TF) : TF := fun sg st => (t sg st).bind fun b st1 => .ok (!b) st1
variable {t u : TF} {rest : List Expr}
theorem sw_and1 (h : SB X W a t) : SW X W (.BoolOp .And [a] pos) t := pw_and1 h
theorem sw_or1 (h : SB X W a t) : SW X W (.BoolOp .Or [a] pos) t := pw_or1 h
theorem sw_and (h : SB X W a t) (h2 : SW X W (.BoolOp .And (b :: rest) pos) u) : SW X W (.BoolOp .And (a :: b :: rest) pos) (tAnd' t u) :=
  pw_weak (pw_and h h2) fun σ H Q ⟨m, sg, st, e, rm, rs, hp⟩ => ⟨m, sg, st, e, rm, rs, hp.bindc fun m1 x v st1 e1 r1 q1 hp1 => by
    cases q1
    cases x with
    | true => exact ⟨m1, sg, st1, rfl, r1, rs.mono e1, hp1⟩
    | false => exact hp1.okc r1 rfl⟩
theorem sw_or (h : SB X W a t) (h2 : SW X W (.BoolOp .Or (b :: rest) pos) u) : SW X W (.BoolOp .Or (a :: b :: rest) pos) (tOr' t u) :=
  pw_weak (pw_or h h2) fun σ H Q ⟨m, sg, st, e, rm, rs, hp⟩ => ⟨m, sg, st, e, rm, rs, hp.bindc fun m1 x v st1 e1 r1 q1 hp1 => by
    cases q1
    cases x with
    | false => exact ⟨m1, sg, st1, rfl, r1, rs.mono e1, hp1⟩
    | true => exact hp1.okc r1 rfl⟩
theorem sb_w (h : SW X W a t) : SB X W a t := PW.pt h
theorem sb_not (h : SB X W a t) : SB X W (.UnaryOp .Not a pos) (tNot' t) :=
  pt_weak (pt_not h) fun σ H Q ⟨m, sg, st, e, rm, rs, hp⟩ => ⟨m, sg, st, e, rm, rs, hp.bindc fun m1 x v st1 e1 r1 q1 hp1 => by
    cases q1; exact hp1.okc r1 rfl⟩
@[simp] def fIfE (t : TF) (fa fb : EF) : EF := fun sg st => (t sg st).bind fun b st1 => if b = true then fa sg st1 else fb sg st1
theorem se_if (ht : SB X W c t) (ha : SE X W a fa) (hb : SE X W b fb) : SE X W (.IfExp c a b pos) (fIfE t fa fb) :=
  pe_weak (pe_ifExp ht ha hb) fun σ H Q ⟨m, sg, st, e, rm, rs, hp⟩ => ⟨m, sg, st, e, rm, rs, hp.bindc fun m1 x v st1 e1 r1 q1 hp1 => by
    cases q1
    cases x with
    | true => exact ⟨m1, sg, st1, rfl, r1, rs.mono e1, hp1⟩
    | false => exact ⟨m1, sg, st1, rfl, r1, rs.mono e1, hp1⟩⟩
/-! and, or, not as values, by truth -/
@[simp] def fAnd (fa fb : EF) : EF := fun sg st => (fa sg st).bind fun x st1 => match dTru x st1 with
  | some true => fb sg st1
  | some false => .ok x st1
  | none => .bad
@[simp] def fOr (fa fb : EF) : EF := fun sg st => (fa sg st).bind fun x st1 => match dTru x st1 with
  | some true => .ok x st1
  | some false => fb sg st1
  | none => .bad
@[simp] def fNot (fa : EF) : EF := fun sg st => (fa sg st).bind fun x st1 => match dTru x st1 with
  | some b => .ok (.bl !b) st1
  | none => .bad
theorem se_one {op : BoolOp} (h : SE X W a fa) : SE X W (.BoolOp op [a] pos) fa := pe_one h
theorem se_and (ha : SE X W a fa) (hb : SE X W (.BoolOp .And (b :: rest) pos) fb) : SE X W (.BoolOp .And (a :: b :: rest) pos) (fAnd fa fb) :=
  pe_weak (pe_andT ha hb) fun σ H Q ⟨m, sg, st, e, rm, rs, hp⟩ => ⟨m, sg, st, e, rm, rs, hp.bindc fun m1 x v st1 e1 r1 q1 hp1 => by
    split at hp1
    · rename_i h
      exact ⟨true, tru_of r1 q1 h, iteT ⟨m1, sg, st1, rfl, r1, rs.mono e1, hp1⟩⟩
    · rename_i h
      exact ⟨false, tru_of r1 q1 h, iteF (hp1.okc r1 q1)⟩
    · exact False.elim hp1⟩
theorem se_or (ha : SE X W a fa) (hb : SE X W (.BoolOp .Or (b :: rest) pos) fb) : SE X W (.BoolOp .Or (a :: b :: rest) pos) (fOr fa fb) :=
  pe_weak (pe_orT ha hb) fun σ H Q ⟨m, sg, st, e, rm, rs, hp⟩ => ⟨m, sg, st, e, rm, rs, hp.bindc fun m1 x v st1 e1 r1 q1 hp1 => by
    split at hp1
    · rename_i h
      exact ⟨true, tru_of r1 q1 h, iteT (hp1.okc r1 q1)⟩
    · rename_i h
      exact ⟨false, tru_of r1 q1 h, iteF ⟨m1, sg, st1, rfl, r1, rs.mono e1, hp1⟩⟩
    · exact False.elim hp1⟩
theorem se_not (ha : SE X W a fa) : SE X W (.UnaryOp .Not a pos) (fNot fa) :=
  pe_weak (pe_notT ha) fun σ H Q ⟨m, sg, st, e, rm, rs, hp⟩ => ⟨m, sg, st, e, rm, rs, hp.bindc fun m1 x v st1 e1 r1 q1 hp1 => by
    split at hp1
    · rename_i b h
      exact ⟨b, tru_of r1 q1 h, hp1.okc r1 (.bl _)⟩
    · exact False.elim hp1⟩
/-! argument lists, displays -/
@[simp] def aNil : AF := fun _ st => .ok [] st
@[simp] def aCons (f : EF) (g : AF) : AF := fun sg st => (f sg st).bind fun x st1 => (g sg st1).bind fun l st2 => .ok (x :: l) st2
variable {es : List Expr} {g : AF}
theorem sa_nil : SA X W [] aNil := pa_weak pa_nil fun σ H Q ⟨m, sg, st, e, rm, rs, hp⟩ => by
  subst e; exact hp.okc rm .nil
theorem sa_cons (he : SE X W e f) (hr : SA X W es g) (hs : starEach (e :: es) X.env = (false, eval e X.env) :: starEach es X.env := by rfl) : SA X W (e :: es) (aCons f g) :=
  pa_weak (pa_cons he hr hs) fun σ H Q ⟨m, sg, st, e, rm, rs, hp⟩ => ⟨m, sg, st, e, rm, rs, hp.bindc fun m1 x v st1 e1 r1 q1 hp1 => ⟨m1, sg, st1, rfl, r1, rs.mono e1, hp1.bindc fun m2 l vs st2 e2 r2 q2 hp2 => hp2.okc r2 (.cons (q1.mono e2) q2)⟩⟩
@[simp] def fTup (g : AF) : EF := fun sg st => (g sg st).bind fun l st1 => if l.length ≤ 16777216 then .ok (.tup l) st1 else .bad
@[simp] def fLst (g : AF) : EF := fun sg st => (g sg st).bind fun l st1 => if l.length ≤ 16777216 then .ok (.lst l) st1 else .bad
@[simp] def fNew (g : AF) : EF := fun sg st => (g sg st).bind fun l st1 => if l.length ≤ 16777216 then .ok (.loc st1.length) (st1 ++ [.lst l]) else .bad
theorem le_line {n : Nat} : n ≤ 16777216 ↔ n ≤ sizeLine := by rw [sizeLine_eq]
theorem se_tup {x1} (h : SA X W es g) : SE X W (.Tuple es x1 pos) (fTup g) :=
  pe_weak (pe_tup h) fun σ H Q ⟨m, sg, st, e, rm, rs, hp⟩ => ⟨m, sg, st, e, rm, rs, hp.bindc fun m1 l vs st1 e1 r1 q1 hp1 => by
    split at hp1
    · rename_i hl
      refine ⟨by rw [← q1.length]; exact le_line.mp hl, hp1.lay (α := D) r1 fun p hn => ?_⟩
      exact .tup (.of upd_same) (q1.mono (Ext.lay r1 hn))
    · exact False.elim hp1⟩
theorem se_lst (h : SA X W es g) : SE X W (.List es pos) (fLst g) :=
  pe_weak (pe_lst h) fun σ H Q ⟨m, sg, st, e, rm, rs, hp⟩ => ⟨m, sg, st, e, rm, rs, hp.bindc fun m1 l vs st1 e1 r1 q1 hp1 => by
    split at hp1
    · rename_i hl
      refine ⟨by rw [← q1.length]; exact le_line.mp hl, hp1.lay (α := D) r1 fun p hn => ?_⟩
      exact .lst upd_same (q1.mono (Ext.lay r1 hn))
    · exact False.elim hp1⟩
theorem se_new (h : SA X W es g) : SE X W (.List es pos) (fNew g) :=
  pe_weak (pe_lst h) fun σ H Q ⟨m, sg, st, e, rm, rs, hp⟩ => ⟨m, sg, st, e, rm, rs, hp.bindc fun m1 l vs st1 e1 r1 q1 hp1 => by
    split at hp1
    · rename_i hl
      refine ⟨by rw [← q1.length]; exact le_line.mp hl, fun p hn => ?_⟩
      refine hp1 (m1.new p (.lst vs)) (.ref p) (Ext.new r1 hn) (r1.new hn ⟨vs, upd_same, q1.mono (Ext.new (o := .lst vs) r1 hn)⟩) (.loc ?_)
      show (m1.r ++ [p])[st1.length]? = some p
      rw [← r1.len, List.getElem?_append_right (Nat.le_refl _)]
      simp
    · exact False.elim hp1⟩
end
end Sh
/-! Part C: what the operators mean. -/
namespace Sh
open PySem L2

/-! ints -/
def mulOk (i j : Int) : Prop := i.natAbs.log2 + j.natAbs.log2 < 1000000
instance (i j : Int) : Decidable (mulOk i j) := by unfold mulOk; infer_instance
def divOk (j : Int) : Prop := j.natAbs.log2 < 9000
instance (j : Int) : Decidable (divOk j) := by unfold divOk; infer_instance
def powOk (i j : Int) : Prop := 0 ≤ j ∧ ((i.natAbs.log2 + 1 : Nat) : Int) * j ≤ 2 ^ 27
instance (i j : Int) : Decidable (powOk i j) := by unfold powOk; infer_instance
theorem log2_lt' {n k : Nat} (h : n < 2 ^ k) (hk : 0 < k) : n.log2 < k := PySem.Flt.log2_lt_of hk h
theorem mulOk_of {i j : Int} {a b : Nat} (ha : i.natAbs < 2 ^ a) (hb : j.natAbs < 2 ^ b) (h0 : 0 < a) (h1 : 0 < b) (h : a + b ≤ 1000000) : mulOk i j := by
  have x := log2_lt' ha h0
  have y := log2_lt' hb h1
  unfold mulOk; omega
theorem divOk_of {j : Int} {b : Nat} (hb : j.natAbs < 2 ^ b) (h1 : 0 < b) (h : b ≤ 9000) : divOk j := by
  have y := log2_lt' hb h1
  unfold divOk; omega
theorem bits_le (x : Int) : Builtin.Int.intBits x ≤ x.natAbs.log2 + 1 := by
  unfold Builtin.Int.intBits
  split <;> omega
theorem op_powW {X : Cx} : OpR X (binaryOp .Pow) (rI powOk fun i j => .int (i ^ j.toNat)) := opI fun i j _ _ _ _ _ hc q => by
  refine PyProof.Rows.pow_int hc.1 ?_ q
  have h := hc.2
  have b := bits_le i
  have b' : (Builtin.Int.intBits i : Int) ≤ ((i.natAbs.log2 + 1 : Nat) : Int) := by exact_mod_cast b
  exact Int.le_trans (Int.mul_le_mul_of_nonneg_right b' hc.1) h
theorem op_fdivA {X : Cx} : OpR X (binaryOp .FloorDiv) (rI (fun _ j => j ≠ 0 ∧ divOk j) fun i j => .int (i.fdiv j)) := opI fun i j _ _ _ _ _ hc q =>
  PyProof.Rows.floordiv_int hc.1 q (.inl (PyProof.noPylong_of_log2 hc.2))

def dAdd : D → D → Sto → Res D
  | .int i, .int j, st => .ok (.int (i + j)) st
  | .int i, .bl b, st => .ok (.int (i + PyProof.Rows.b2i b)) st
  | .str x, .str y, st => if x.length + y.length ≤ 16777216 then .ok (.str (x ++ y)) st else .bad
  | .lst x, .lst y, st => if x.length + y.length ≤ 16777216 then .ok (.lst (x ++ y)) st else .bad
  | .tup x, .tup y, st => if x ≠ [] ∧ x.length + y.length ≤ 16777216 then .ok (.tup (x ++ y)) st else .bad
  | _, _, _ => .bad
def dSub : D → D → Sto → Res D
  | .int i, .int j, st => .ok (.int (i - j)) st
  | _, _, _ => .bad
def dMul : D → D → Sto → Res D
  | .int i, .int j, st => if mulOk i j then .ok (.int (i * j)) st else .bad
  | _, _, _ => .bad
def dDiv : D → D → Sto → Res D
  | .int i, .int j, st => if 0 < j ∧ divOk j then .ok (.int (i / j)) st else if j < 0 ∧ divOk j then .ok (.int (i.fdiv j)) st else .bad
  | _, _, _ => .bad
def dMod : D → D → Sto → Res D
  | .int i, .int j, st => if 0 < j then .ok (.int (i % j)) st else if j < 0 then .ok (.int (i.fmod j)) st else .bad
  | _, _, _ => .bad
def dPow : D → D → Sto → Res D
  | .int i, .int j, st => if powOk i j then .ok (.int (i ^ j.toNat)) st else .bad
  | _, _, _ => .bad
def dNeg : D → Sto → Res D
  | .int i, st => .ok (.int (-i)) st
  | _, _ => .bad
def dCmpI (p : Int → Int → Bool) : D → D → Sto → Res D
  | .int i, .int j, st => .ok (.bl (p i j)) st
  | _, _, _ => .bad
abbrev dLt := dCmpI fun i j => decide (i < j)
abbrev dLe := dCmpI fun i j => decide (i ≤ j)
abbrev dGt := dCmpI fun i j => decide (j < i)
abbrev dGe := dCmpI fun i j => decide (j ≤ i)

section
variable {X : Cx} {W : We}
abbrev rAddA : R2 := fun x y H Q => (∃ i j, x = .int i ∧ y = .int j ∧ Q (.int (i + j)) H) ∨ (∃ i k, x = .int i ∧ y = .bl k ∧ Q (.int (i + PyProof.Rows.b2i k)) H) ∨
  (∃ i j, x = .str i ∧ y = .str j ∧ i.length + j.length ≤ sizeLine ∧ Q (.str (i ++ j)) H) ∨ rCat x y H Q
theorem fits_add : Fits2 X W (fun x y H Q => rAddA x y H Q ∨ rCatT X.K x y H Q) dAdd := by
  intro m st σ x y v w Q rm ra rb hp
  unfold dAdd at hp
  split at hp
  · cases ra; cases rb; exact .inl (.inl ⟨_, _, rfl, rfl, hp.okc rm (.int _)⟩)
  · cases ra; cases rb; exact .inl (.inr (.inl ⟨_, _, rfl, rfl, hp.okc rm (.int _)⟩))
  · cases ra; cases rb
    split at hp
    · rename_i h
      exact .inl (.inr (.inr (.inl ⟨_, _, rfl, rfl, le_line.mp h, hp.okc rm (.str _)⟩)))
    · exact False.elim hp
  · split at hp
    · rename_i h
      cases ra with
      | lst h1 h2 =>
        cases rb with
        | lst h3 h4 =>
          refine .inl (.inr (.inr (.inr ⟨_, _, _, _, rfl, rfl, rm.sub _ _ h1, rm.sub _ _ h3, ?_, hp.lay (α := D) rm fun p hn => ?_⟩)))
          · rw [← h2.length, ← h4.length]; exact le_line.mp h
          · exact .lst upd_same ((h2.append h4).mono (Ext.lay rm hn))
    · exact False.elim hp
  · split at hp
    · rename_i h
      cases ra with
      | tup h1 h2 =>
        cases rb with
        | tup h3 h4 =>
          refine .inr ⟨_, _, _, _, rfl, rfl, sqT_mono rm.sub h1, sqT_mono rm.sub h3, ?_, ?_, ?_⟩
          · intro z; subst z; cases h2; exact h.1 rfl
          · rw [← h2.length, ← h4.length]; exact le_line.mp h.2
          · refine ⟨fun z => ?_, fun _ => hp.lay (α := D) rm fun p hn => .tup (.of upd_same) ((h2.append h4).mono (Ext.lay rm hn))⟩
            subst z
            cases h4
            rw [List.append_nil] at hp
            exact hp.okc rm (.tup h1 h2)
    · exact False.elim hp
  · exact False.elim hp
theorem op_addA : OpR X (binaryOp .Add) (fun x y H Q => rAddA x y H Q ∨ rCatT X.K x y H Q) :=
  (op_add.or (op_add_ib.or (op_add_str.or op_cat))).or op_catT
theorem fits_sub : Fits2 X W (rI0 fun i j => .int (i - j)) dSub := by
  intro m st σ x y v w Q rm ra rb hp
  unfold dSub at hp
  split at hp
  · cases ra; cases rb; exact ⟨_, _, rfl, rfl, hp.okc rm (.int _)⟩
  · exact False.elim hp
theorem fits_mul : Fits2 X W (rI CMulW fun i j => .int (i * j)) dMul := by
  intro m st σ x y v w Q rm ra rb hp
  unfold dMul at hp
  split at hp
  · split at hp
    · rename_i h
      cases ra; cases rb; exact ⟨_, _, rfl, rfl, h, hp.okc rm (.int _)⟩
    · exact False.elim hp
  · exact False.elim hp
theorem fits_div : Fits2 X W (rI (fun _ j => j ≠ 0 ∧ divOk j) fun i j => .int (i.fdiv j)) dDiv := by
  intro m st σ x y v w Q rm ra rb hp
  unfold dDiv at hp
  split at hp
  · rename_i st' i j
    cases ra; cases rb
    split at hp
    · rename_i h
      refine ⟨_, _, rfl, rfl, ⟨by omega, h.2⟩, ?_⟩
      have e : i.fdiv j = i / j := Int.fdiv_eq_ediv_of_nonneg i (by omega)
      show Q (V.int _) _
      rw [e]
      exact hp.okc rm (.int _)
    · split at hp
      · rename_i h
        exact ⟨_, _, rfl, rfl, ⟨by omega, h.2⟩, hp.okc rm (.int _)⟩
      · exact False.elim hp
  · exact False.elim hp
theorem fits_mod : Fits2 X W (rI (fun _ j => j ≠ 0) fun i j => .int (i.fmod j)) dMod := by
  intro m st σ x y v w Q rm ra rb hp
  unfold dMod at hp
  split at hp
  · rename_i st' i j
    cases ra; cases rb
    split at hp
    · rename_i h
      refine ⟨_, _, rfl, rfl, by omega, ?_⟩
      have e : i.fmod j = i % j := Int.fmod_eq_emod_of_nonneg i (by omega)
      show Q (V.int _) _
      rw [e]
      exact hp.okc rm (.int _)
    · split at hp
      · rename_i h
        exact ⟨_, _, rfl, rfl, by omega, hp.okc rm (.int _)⟩
      · exact False.elim hp
  · exact False.elim hp
theorem fits_pow : Fits2 X W (rI powOk fun i j => .int (i ^ j.toNat)) dPow := by
  intro m st σ x y v w Q rm ra rb hp
  unfold dPow at hp
  split at hp
  · split at hp
    · rename_i h
      cases ra; cases rb; exact ⟨_, _, rfl, rfl, h, hp.okc rm (.int _)⟩
    · exact False.elim hp
  · exact False.elim hp
theorem fits_neg : Fits1 X W (rU fun i => .int (-i)) dNeg := by
  intro m st σ x v Q rm ra hp
  unfold dNeg at hp
  split at hp
  · cases ra; exact ⟨_, rfl, hp.okc rm (.int _)⟩
  · exact False.elim hp
theorem fits_cmpI {p : Int → Int → Bool} : Fits2 X W (rI0 fun i j => .bl (p i j)) (dCmpI p) := by
  intro m st σ x y v w Q rm ra rb hp
  unfold dCmpI at hp
  split at hp
  · cases ra; cases rb; exact ⟨_, _, rfl, rfl, hp.okc rm (.bl _)⟩
  · exact False.elim hp
end

/-! == of data -/
mutual
def toPy : D → Option PyData
  | .non => some .none
  | .bl b => some (.bool b)
  | .int i => some (.int i)
  | .str x => some (.str x)
  | .tup l => (toPys l).map .tuple
  | .lst l => (toPys l).map .list
  | _ => none
def toPys : List D → Option (List PyData)
  | [] => some []
  | x :: l => match toPy x, toPys l with
    | some d, some ds => some (d :: ds)
    | _, _ => none
end
mutual
@[simp] def dEqv : D → D → Bool
  | .non, .non => true
  | .bl a, .bl b => a == b
  | .bl a, .int j => (if a then 1 else 0) == j
  | .int i, .bl b => i == (if b then 1 else 0)
  | .int i, .int j => i == j
  | .str x, .str y => x == y
  | .tup l, .tup l' => dEqvs l l'
  | .lst l, .lst l' => dEqvs l l'
  | _, _ => false
@[simp] def dEqvs : List D → List D → Bool
  | [], [] => true
  | x :: l, y :: l' => dEqv x y && dEqvs l l'
  | _, _ => false
end
theorem toPys_cons {x : D} {l : List D} {ds : List PyData} (h : toPys (x :: l) = some ds) : ∃ d r, ds = d :: r ∧ toPy x = some d ∧ toPys l = some r := by
  unfold toPys at h
  split at h
  · rename_i d r h1 h2
    exact ⟨d, r, (Option.some.inj h).symm, h1, h2⟩
  · cases h
theorem toPy_tup {l : List D} {d : PyData} (h : toPy (.tup l) = some d) : ∃ ds, d = .tuple ds ∧ toPys l = some ds := by
  unfold toPy at h
  obtain ⟨ds, h1, h2⟩ := Option.map_eq_some_iff.mp h
  exact ⟨ds, h2.symm, h1⟩
theorem toPy_lst {l : List D} {d : PyData} (h : toPy (.lst l) = some d) : ∃ ds, d = .list ds ∧ toPys l = some ds := by
  unfold toPy at h
  obtain ⟨ds, h1, h2⟩ := Option.map_eq_some_iff.mp h
  exact ⟨ds, h2.symm, h1⟩
mutual
theorem dEqv_py : ∀ (x y : D) (d e : PyData), toPy x = some d → toPy y = some e → dEqv x y = PyData.eqv d e
  | .non, y, d, e, hd, he => by
    cases (Option.some.inj (by simpa [toPy] using hd) : PyData.none = d)
    cases y <;> first | (simp [toPy] at he; done) | (obtain ⟨ds, rfl, _⟩ := toPy_tup he; simp [dEqv, PyData.eqv]) | (obtain ⟨ds, rfl, _⟩ := toPy_lst he; simp [dEqv, PyData.eqv]) | (simp [toPy] at he; subst he; simp [dEqv, PyData.eqv])
  | .bl b, y, d, e, hd, he => by
    cases (Option.some.inj (by simpa [toPy] using hd) : PyData.bool b = d)
    cases y <;> first | (simp [toPy] at he; done) | (obtain ⟨ds, rfl, _⟩ := toPy_tup he; simp [dEqv, PyData.eqv]) | (obtain ⟨ds, rfl, _⟩ := toPy_lst he; simp [dEqv, PyData.eqv]) | (simp [toPy] at he; subst he; simp [dEqv, PyData.eqv])
  | .int b, y, d, e, hd, he => by
    cases (Option.some.inj (by simpa [toPy] using hd) : PyData.int b = d)
    cases y <;> first | (simp [toPy] at he; done) | (obtain ⟨ds, rfl, _⟩ := toPy_tup he; simp [dEqv, PyData.eqv]) | (obtain ⟨ds, rfl, _⟩ := toPy_lst he; simp [dEqv, PyData.eqv]) | (simp [toPy] at he; subst he; simp [dEqv, PyData.eqv])
  | .str b, y, d, e, hd, he => by
    cases (Option.some.inj (by simpa [toPy] using hd) : PyData.str b = d)
    cases y <;> first | (simp [toPy] at he; done) | (obtain ⟨ds, rfl, _⟩ := toPy_tup he; simp [dEqv, PyData.eqv]) | (obtain ⟨ds, rfl, _⟩ := toPy_lst he; simp [dEqv, PyData.eqv]) | (simp [toPy] at he; subst he; simp [dEqv, PyData.eqv])
  | .tup l, y, d, e, hd, he => by
    obtain ⟨ds, rfl, h1⟩ := toPy_tup hd
    cases y with
    | tup l' =>
      obtain ⟨es, rfl, h2⟩ := toPy_tup he
      simp only [dEqv, PyData.eqv]
      exact dEqvs_py l l' ds es h1 h2
    | lst l' => obtain ⟨es, rfl, h2⟩ := toPy_lst he; simp [dEqv, PyData.eqv]
    | _ => first | (simp [toPy] at he; done) | (simp [toPy] at he; subst he; simp [dEqv, PyData.eqv])
  | .lst l, y, d, e, hd, he => by
    obtain ⟨ds, rfl, h1⟩ := toPy_lst hd
    cases y with
    | lst l' =>
      obtain ⟨es, rfl, h2⟩ := toPy_lst he
      simp only [dEqv, PyData.eqv]
      exact dEqvs_py l l' ds es h1 h2
    | tup l' => obtain ⟨es, rfl, h2⟩ := toPy_tup he; simp [dEqv, PyData.eqv]
    | _ => first | (simp [toPy] at he; done) | (simp [toPy] at he; subst he; simp [dEqv, PyData.eqv])
  | .ins _ _, _, _, _, hd, _ => by simp [toPy] at hd
  | .edict, _, _, _, hd, _ => by simp [toPy] at hd
  | .exn, _, _, _, hd, _ => by simp [toPy] at hd
  | .loc _, _, _, _, hd, _ => by simp [toPy] at hd
  | .scr _, _, _, _, hd, _ => by simp [toPy] at hd
theorem dEqvs_py : ∀ (l l' : List D) (ds es : List PyData), toPys l = some ds → toPys l' = some es → dEqvs l l' = PyData.eqvAll ds es
  | [], l', ds, es, hd, he => by
    cases (Option.some.inj (by simpa [toPys] using hd) : [] = ds)
    cases l' with
    | nil => cases (Option.some.inj (by simpa [toPys] using he) : [] = es); simp [dEqvs, PyData.eqvAll]
    | cons y l' => obtain ⟨e, r, rfl, _⟩ := toPys_cons he; simp [dEqvs, PyData.eqvAll]
  | x :: l, l', ds, es, hd, he => by
    obtain ⟨d, r, rfl, h1, h2⟩ := toPys_cons hd
    cases l' with
    | nil => cases (Option.some.inj (by simpa [toPys] using he) : [] = es); simp [dEqvs, PyData.eqvAll]
    | cons y l' =>
      obtain ⟨e, r', rfl, h3, h4⟩ := toPys_cons he
      simp only [dEqvs, PyData.eqvAll]
      rw [dEqv_py x y d e h1 h3, dEqvs_py l l' r r' h2 h4]
end
section
variable {X : Cx} {W : We}
mutual
theorem dp_of {K : PySem.W.Frag} {mg : Str → Option Value} {r : List Addr} {G H : Hp} (sub : ∀ a o, G a = some o → H a = some o) : ∀ (x : D) (v : V) (d : PyData), Rep K mg r G x v → toPy x = some d → Dp K H v d
  | .non, _, _, h, e => by cases h; cases (Option.some.inj (by simpa [toPy] using e) : PyData.none = _); exact .non
  | .bl b, _, _, h, e => by cases h; cases (Option.some.inj (by simpa [toPy] using e) : PyData.bool b = _); exact .bl b
  | .int b, _, _, h, e => by cases h; cases (Option.some.inj (by simpa [toPy] using e) : PyData.int b = _); exact .int b
  | .str b, _, _, h, e => by cases h; cases (Option.some.inj (by simpa [toPy] using e) : PyData.str b = _); exact .str b
  | .tup l, _, _, h, e => by
    obtain ⟨ds, rfl, h1⟩ := toPy_tup e
    cases h with
    | tup h2 h3 => exact .tup (sqT_mono sub h2) (dps_of sub l _ _ h3 h1)
  | .lst l, _, _, h, e => by
    obtain ⟨ds, rfl, h1⟩ := toPy_lst e
    cases h with
    | lst h2 h3 => exact .lst (.of (sub _ _ h2)) (dps_of sub l _ _ h3 h1)
  | .ins _ _, _, _, _, e => by simp [toPy] at e
  | .edict, _, _, _, e => by simp [toPy] at e
  | .exn, _, _, _, e => by simp [toPy] at e
  | .loc _, _, _, _, e => by simp [toPy] at e
  | .scr _, _, _, _, e => by simp [toPy] at e
theorem dps_of {K : PySem.W.Frag} {mg : Str → Option Value} {r : List Addr} {G H : Hp} (sub : ∀ a o, G a = some o → H a = some o) : ∀ (l : List D) (vs : List V) (ds : List PyData), Reps K mg r G l vs → toPys l = some ds → DpAll K H vs ds
  | [], _, _, h, e => by cases h; cases (Option.some.inj (by simpa [toPys] using e) : [] = _); exact .nil
  | x :: l, _, _, h, e => by
    obtain ⟨d, q, rfl, h1, h2⟩ := toPys_cons e
    cases h with
    | cons h3 h4 => exact .cons (dp_of sub x _ _ h3 h1) (dps_of sub l _ _ h4 h2)
end
def eqOk (x y : D) : Bool := match toPy x, toPy y with
  | some d, some e => SeqAt.shaped d && SeqAt.shaped e
  | _, _ => false
/-- a list of the store, as it stands -/
def resD (st : Sto) : D → D
  | .loc n => match st[n]? with
    | some (.lst l) => .lst l
    | _ => .loc n
  | x => x
theorem res_dp {m : Hw} {st : Sto} {x : D} {v : V} {d : PyData} (rm : Rel X.K X.mg m st) (h : Rep X.K X.mg m.r m.g x v) (e : toPy (resD st x) = some d) : Dp X.K m.h v d := by
  unfold resD at e
  split at e
  · rename_i n
    cases h with
    | loc h1 =>
      split at e
      · rename_i l hl
        obtain ⟨vs, h2, h3⟩ := rm.obj _ _ _ h1 hl
        obtain ⟨ds, rfl, e1⟩ := toPy_lst e
        exact .lst (.of h2) (dps_of rm.sub l _ _ h3 e1)
      · simp [toPy] at e
  · exact dp_of rm.sub _ _ _ h e
def dEq (x y : D) (st : Sto) : Res D := if eqOk (resD st x) (resD st y) = true then .ok (.bl (dEqv (resD st x) (resD st y))) st else .bad
def dNe (x y : D) (st : Sto) : Res D := if eqOk (resD st x) (resD st y) = true then .ok (.bl (!dEqv (resD st x) (resD st y))) st else .bad
theorem eqOk_get {x y : D} (h : eqOk x y = true) : ∃ d e, toPy x = some d ∧ toPy y = some e ∧ SeqAt.shaped d = true ∧ SeqAt.shaped e = true := by
  unfold eqOk at h
  split at h
  · rename_i d e h1 h2
    exact ⟨d, e, h1, h2, (Bool.and_eq_true_iff.mp h).1, (Bool.and_eq_true_iff.mp h).2⟩
  · cases h
theorem fits_eq : Fits2 X W (rEqD X.K) dEq := by
  intro m st σ x y v w Q rm ra rb hp
  unfold dEq at hp
  split at hp
  · rename_i h
    obtain ⟨d, e, h1, h2, h3, h4⟩ := eqOk_get h
    rw [dEqv_py _ _ d e h1 h2] at hp
    exact ⟨d, e, res_dp rm ra h1, res_dp rm rb h2, h3, h4, hp.okc rm (.bl _)⟩
  · exact False.elim hp
theorem fits_ne : Fits2 X W (rNeD X.K) dNe := by
  intro m st σ x y v w Q rm ra rb hp
  unfold dNe at hp
  split at hp
  · rename_i h
    obtain ⟨d, e, h1, h2, h3, h4⟩ := eqOk_get h
    rw [dEqv_py _ _ d e h1 h2] at hp
    exact ⟨d, e, res_dp rm ra h1, res_dp rm rb h2, h3, h4, hp.okc rm (.bl _)⟩
  · exact False.elim hp
/-! is None -/
def dIsN : D → D → Sto → Res D
  | x, .non, st => .ok (.bl (match x with | .non => true | _ => false)) st
  | _, _, _ => .bad
def dNotN : D → D → Sto → Res D
  | x, .non, st => .ok (.bl (match x with | .non => false | _ => true)) st
  | _, _, _ => .bad
theorem fits_isN : Fits2 X W (fun x y H Q => y = .non ∧ Q (.bl (decide (x = .non))) H) dIsN := by
  intro m st σ x y v w Q rm ra rb hp
  unfold dIsN at hp
  split at hp
  · cases rb
    refine ⟨rfl, ?_⟩
    have q := hp.okc rm (.bl _)
    cases ra <;> simpa using q
  · exact False.elim hp
theorem fits_notN : Fits2 X W (fun x y H Q => y = .non ∧ Q (.bl (!decide (x = .non))) H) dNotN := by
  intro m st σ x y v w Q rm ra rb hp
  unfold dNotN at hp
  split at hp
  · cases rb
    refine ⟨rfl, ?_⟩
    have q := hp.okc rm (.bl _)
    cases ra <;> simpa using q
  · exact False.elim hp
/-! x in a list, a tuple of flat things -/
def dFlat : D → Bool
  | .non => true
  | .bl _ => true
  | .int _ => true
  | .str _ => true
  | _ => false
theorem flat_rep {m : Hw} {x : D} {v : V} (h : Rep X.K X.mg m.r m.g x v) (e : dFlat x = true) : flatV v = true := by
  cases h <;> first | rfl | (simp [dFlat] at e)
theorem flat_eq {m : Hw} {x y : D} {v w : V} (h : Rep X.K X.mg m.r m.g x v) (h' : Rep X.K X.mg m.r m.g y w) (e : dFlat x = true) (e' : dFlat y = true) : eqV v w = dEqv x y := by
  cases h <;> cases h' <;> first | rfl | (simp [dFlat] at e; done) | (simp [dFlat] at e'; done) | simp [eqV, dEqv]
theorem flats_rep {m : Hw} : ∀ {l : List D} {vs : List V}, Reps X.K X.mg m.r m.g l vs → l.all dFlat = true → vs.all flatV = true
  | [], _, h, _ => by cases h; rfl
  | x :: l, _, h, e => by
    cases h with
    | cons h1 h2 =>
      rw [List.all_cons, Bool.and_eq_true] at e
      rw [List.all_cons, flat_rep h1 e.1, flats_rep h2 e.2]; rfl
theorem flats_in {m : Hw} {x : D} {v : V} (hx : Rep X.K X.mg m.r m.g x v) (ex : dFlat x = true) : ∀ {l : List D} {vs : List V}, Reps X.K X.mg m.r m.g l vs → l.all dFlat = true → inV v vs = l.any fun y => dEqv y x
  | [], _, h, _ => by cases h; rfl
  | y :: l, _, h, e => by
    cases h with
    | cons h1 h2 =>
      rw [List.all_cons, Bool.and_eq_true] at e
      have ih := flats_in hx ex h2 e.2
      unfold inV at ih ⊢
      rw [List.any_cons, List.any_cons, flat_eq h1 hx e.1 ex, ih]
def itemsOf : D → Sto → Option (List D)
  | .lst l, _ => some l
  | .tup l, _ => some l
  | .scr l, _ => some (l.map .int)
  | .loc n, st => match st[n]? with
    | some (.lst l) => some l
    | _ => none
  | _, _ => none
theorem reps_ints {m : Hw} : ∀ l : List Int, Reps X.K X.mg m.r m.g (l.map .int) (l.map V.int)
  | [] => .nil
  | i :: l => .cons (.int i) (reps_ints l)
theorem items_of {m : Hw} {st : Sto} {x : D} {v : V} {l : List D} (rm : Rel X.K X.mg m st) (h : Rep X.K X.mg m.r m.g x v) (e : itemsOf x st = some l) : ∃ p vs, v = .ref p ∧ (SqL X.K m.h p vs ∨ SqT X.K m.h p vs) ∧ Reps X.K X.mg m.r m.g l vs := by
  unfold itemsOf at e
  split at e
  · cases e; cases h with
    | lst h1 h2 => exact ⟨_, _, rfl, .inl (.of (rm.sub _ _ h1)), h2⟩
  · cases e; cases h with
    | tup h1 h2 => exact ⟨_, _, rfl, .inr (sqT_mono rm.sub h1), h2⟩
  · cases e; cases h with
    | scr h1 => exact ⟨_, _, rfl, .inl (sqL_mono rm.sub h1), reps_ints _⟩
  · cases h with
    | loc h1 =>
      split at e
      · rename_i h2
        cases e
        obtain ⟨vs, h3, h4⟩ := rm.obj _ _ _ h1 h2
        exact ⟨_, _, rfl, .inl (.of h3), h4⟩
      · cases e
  · cases e
def dInL (neg : Bool) (x y : D) (st : Sto) : Res D := match itemsOf y st with
  | some l => if dFlat x = true ∧ l.all dFlat = true then .ok (.bl (if neg then !(l.any fun y => dEqv y x) else l.any fun y => dEqv y x)) st else .bad
  | none => .bad
theorem fits_inL {neg : Bool} : Fits2 X W (rIn X.K neg) (dInL neg) := by
  intro m st σ x y v w Q rm ra rb hp
  unfold dInL at hp
  split at hp
  · rename_i l h
    split at hp
    · rename_i hf
      obtain ⟨p, vs, rfl, hs, hr⟩ := items_of rm rb h
      refine ⟨p, vs, rfl, hs, flat_rep ra hf.1, flats_rep hr hf.2, ?_⟩
      rw [flats_in ra hf.1 hr hf.2]
      exact hp.okc rm (.bl _)
    · exact False.elim hp
  · exact False.elim hp
/-! items by place -/
def dAt (l : List D) (i : Int) : Option D := if 0 ≤ i then l[i.toNat]? else if -(l.length : Int) ≤ i then l[(i + l.length).toNat]? else none
def dIx : D → D → Sto → Res D
  | .str x, .int i, st => if x.length ≤ 16777216 then (match atI x.cps.toList i with
    | some c => .ok (.str ⟨#[c]⟩) st
    | none => .bad) else .bad
  | x, .int i, st => match itemsOf x st with
    | some l => match dAt l i with
      | some d => .ok d st
      | none => .bad
    | none => .bad
  | _, _, _ => .bad
theorem dAt_get {m : Hw} {l : List D} {vs : List V} {i : Int} {d : D} (h : Reps X.K X.mg m.r m.g l vs) (e : dAt l i = some d) : ∃ v, atI vs i = some v ∧ Rep X.K X.mg m.r m.g d v := by
  have hl := h.length
  unfold dAt at e
  split at e
  · rename_i h0
    obtain ⟨v, h1, h2⟩ := h.get e
    refine ⟨v, ?_, h2⟩
    unfold atI ixN
    have : i < (vs.length : Int) := by
      have := (List.getElem?_eq_some_iff.mp h1).1
      omega
    rw [if_pos h0, if_pos this]
    exact h1
  · rename_i h0
    split at e
    · rename_i h3
      obtain ⟨v, h1, h2⟩ := h.get e
      refine ⟨v, ?_, h2⟩
      unfold atI ixN
      rw [if_neg h0, if_pos (by rw [← hl]; exact h3), ← hl]
      exact h1
    · cases e
theorem fits_ix : Fits2 X W (rIx X.K) dIx := by
  intro m st σ x y v w Q rm ra rb hp
  unfold dIx at hp
  split at hp
  · split at hp
    · rename_i hl
      split at hp
      · rename_i c hc
        cases ra; cases rb
        exact .inr (.inr ⟨_, _, c, rfl, rfl, le_line.mp hl, hc, hp.okc rm (.str _)⟩)
      · exact False.elim hp
    · exact False.elim hp
  · split at hp
    · rename_i l h
      split at hp
      · rename_i d hd
        cases rb
        obtain ⟨p, vs, rfl, hs, hr⟩ := items_of rm ra h
        obtain ⟨u, h1, h2⟩ := dAt_get hr hd
        rcases hs with hs | hs
        · exact .inl ⟨_, _, _, _, rfl, rfl, hs, h1, hp.okc rm h2⟩
        · exact .inr (.inl ⟨_, _, _, _, rfl, rfl, hs, h1, hp.okc rm h2⟩)
      · exact False.elim hp
    · exact False.elim hp
  · exact False.elim hp
variable {a b : Expr} {fa fb : EF} {pos : Pos}
theorem se_ix (ha : SE X W a fa) (hb : SE X W b fb) (hs : PlainIx b) : SE X W (.Subscript a b pos) (fBin dIx fa fb) :=
  pe_weak (pe_ix ix_seq ha hb hs) fun _ _ _ h => tOp_of fits_ix h
end
end Sh
/-! Part D: calls, fields, objects. -/
namespace Sh
open PySem L2

/-! no place of the store within -/
mutual
@[simp] def pu : D → Bool
  | .tup l => pus l
  | .lst l => pus l
  | .ins _ l => pus l
  | .loc _ => false
  | _ => true
@[simp] def pus : List D → Bool
  | [] => true
  | x :: l => pu x && pus l
end
section
variable {K : PySem.W.Frag} {mg : Str → Option Value}
mutual
theorem rep_pu {r r' : List Addr} {G : Hp} : ∀ (d : D) (v : V), pu d = true → Rep K mg r G d v → Rep K mg r' G d v
  | .non, _, _, h => by cases h; exact .non
  | .bl b, _, _, h => by cases h; exact .bl b
  | .int i, _, _, h => by cases h; exact .int i
  | .str x, _, _, h => by cases h; exact .str x
  | .tup l, _, e, h => by
    cases h with
    | tup h1 h2 => exact .tup h1 (reps_pu l _ (by simpa using e) h2)
  | .lst l, _, e, h => by
    cases h with
    | lst h1 h2 => exact .lst h1 (reps_pu l _ (by simpa using e) h2)
  | .ins c l, _, e, h => by
    cases h with
    | ins h1 h2 h3 h4 => exact .ins h1 h2 h3 (reps_pu l _ (by simpa using e) h4)
  | .loc n, _, e, h => by simp at e
  | .scr l, _, _, h => by
    cases h with
    | scr h1 => exact .scr h1
  | .edict, _, _, h => by
    cases h with
    | edict h1 => exact .edict h1
  | .exn, _, _, h => by cases h
theorem reps_pu {r r' : List Addr} {G : Hp} : ∀ (l : List D) (vs : List V), pus l = true → Reps K mg r G l vs → Reps K mg r' G l vs
  | [], _, _, h => by cases h; exact .nil
  | d :: l, _, e, h => by
    have e' : pu d = true ∧ pus l = true := by simpa using e
    cases h with
    | cons h1 h2 => exact .cons (rep_pu d _ e'.1 h1) (reps_pu l _ e'.2 h2)
end
mutual
theorem rep_cut {r t : List Addr} {G G' : Hp} : ∀ (d : D) (v v' : V), Rep K mg r G d v → Rep K mg (r ++ t) G' d v' → Rep K mg r G' d v'
  | .non, _, _, _, h => by cases h; exact .non
  | .bl b, _, _, _, h => by cases h; exact .bl b
  | .int i, _, _, _, h => by cases h; exact .int i
  | .str x, _, _, _, h => by cases h; exact .str x
  | .tup l, _, _, a, h => by
    cases h with
    | tup h1 h2 =>
      cases a with
      | tup a1 a2 => exact .tup h1 (reps_cut l _ _ a2 h2)
  | .lst l, _, _, a, h => by
    cases h with
    | lst h1 h2 =>
      cases a with
      | lst a1 a2 => exact .lst h1 (reps_cut l _ _ a2 h2)
  | .ins c l, _, _, a, h => by
    cases h with
    | ins h1 h2 h3 h4 =>
      cases a with
      | ins a1 a2 a3 a4 => exact .ins h1 h2 h3 (reps_cut l _ _ a4 h4)
  | .loc n, _, _, a, h => by
    cases h with
    | loc h1 =>
      cases a with
      | loc a1 =>
        rw [List.getElem?_append_left (List.getElem?_eq_some_iff.mp a1).1] at h1
        exact .loc h1
  | .scr l, _, _, _, h => by
    cases h with
    | scr h1 => exact .scr h1
  | .edict, _, _, _, h => by
    cases h with
    | edict h1 => exact .edict h1
  | .exn, _, _, _, h => by cases h
theorem reps_cut {r t : List Addr} {G G' : Hp} : ∀ (l : List D) (vs vs' : List V), Reps K mg r G l vs → Reps K mg (r ++ t) G' l vs' → Reps K mg r G' l vs'
  | [], _, _, _, h => by cases h; exact .nil
  | d :: l, _, _, a, h => by
    cases h with
    | cons h1 h2 =>
      cases a with
      | cons a1 a2 => exact .cons (rep_cut d _ _ a1 h1) (reps_cut l _ _ a2 h2)
end
theorem srep_cut {r t : List Addr} {G G' H H' : Hp} {a : Addr} : ∀ {so : SO}, SRep K mg r G H a so → SRep K mg (r ++ t) G' H' a so → SRep K mg r G' H' a so
  | .lst l, ⟨vs, _, h⟩, ⟨vs', h1, h2⟩ => ⟨vs', h1, reps_cut _ _ _ h h2⟩
  | .dict l, ⟨vs, _, _, h⟩, ⟨vs', h1, h2, h3⟩ => ⟨vs', h1, h2, reps_cut _ _ _ h h3⟩
  | .ins c l, ⟨_, _, _, _, _, _, h⟩, ⟨C, dx, fs, h1, h2, h3, h4⟩ => ⟨C, dx, fs, h1, h2, h3, reps_cut _ _ _ h h4⟩
/-- behind a scope: the store's new things are gone -/
theorem Rel.cut {m m' : Hw} {st st' : Sto} (R : Rel K mg m st) (R' : Rel K mg m' st') (e : Ext m m') (h : st'.take st.length = st) (g : Hp) (hg : ∀ a o, g a = some o → m'.h a = some o) (hr : ∀ a ∈ m.r, g a = none) (hm : ∀ a o, m'.g a = some o → g a = some o) :
    Rel K mg ⟨m.r, g, m'.h⟩ st := by
  obtain ⟨t, ht⟩ := e.pre
  refine ⟨hg, R.len, R.nd, hr, fun n a so e1 e2 => ?_⟩
  have e1 : m.r[n]? = some a := e1
  have e3 : st'[n]? = some so := by
    have hn : n < st.length := (List.getElem?_eq_some_iff.mp e2).1
    have := e2
    rw [← h, List.getElem?_take_of_lt hn] at this
    exact this
  have q := R'.obj n a so (e.at_ e1) e3
  rw [ht] at q
  exact srep_cut (R.obj n a so e1 e2) (q.mono' (fun _ _ z => z) hm fun _ z => z)
end

section
variable {X : Cx} {W : We} {e o : Expr} {es : List Expr} {f fo : EF} {g : AF} {pos p apos : Pos} {x m : Str}
/-! built-in functions -/
@[simp] def fCall (sem : List D → Sto → Res D) (g : AF) : EF := fun sg st => (g sg st).bind fun l st1 => sem l st1
def FitsL (X : Cx) (W : We) (r : List V → Hp → VK → Prop) (sem : List D → Sto → Res D) : Prop := ∀ (m : Hw) (st : Sto) (σ : St) (l : List D) (vs : List V) (Q : VK), Rel X.K X.mg m st → Reps X.K X.mg m.r m.g l vs → Post X.K X.mg W.w m σ (RD X.K X.mg) Q (sem l st) → r vs m.h Q
theorem tCB_of {r : List V → Hp → VK → Prop} {sem : List D → Sto → Res D} (hs : FitsL X W r sem) {σ : St} {H : Hp} {Q : VK} (h : TOf X.K X.mg W (RD X.K X.mg) (fCall sem g) σ H Q) : tCB r (TOf X.K X.mg W (RDs X.K X.mg) g) σ H Q := by
  obtain ⟨m, sg, st, rfl, rm, rs, hp⟩ := h
  exact ⟨m, sg, st, rfl, rm, rs, hp.bindc fun m1 l vs st1 e1 r1 q1 hp1 => hs m1 st1 σ l vs Q r1 q1 hp1⟩
theorem se_callB {id : String} {r : List V → Hp → VK → Prop} {sem : List D → Sto → Res D} (hc : CallR X (.builtin id) r) (hs : FitsL X W r sem) (hg : Gl X x) (hm : X.mg x = none) (hv : bootBuiltins x = some (.builtin id)) (ha : SA X W (e :: es) g) (hn : x ≠ "__name__" := by decide) (hdb : (x == ("__debug__" : Str)) = false := by decide)
    (he : starEach (e :: es) X.env = (false, eval e X.env) :: starEach es X.env := by rfl) (hpl : (backTo pos (starEach es X.env)).any (·.1) = false := by rfl) : SE X W (.Call (.Name x p) (e :: es) [] pos) (fCall sem g) :=
  pe_weak (pe_callB hc hg hm hv ha hn hdb he hpl) fun _ _ _ h => tCB_of hs h
theorem se_callTy {T : String} {r : List V → Hp → VK → Prop} {sem : List D → Sto → Res D} (hc : CallR X (.type T) r) (hs : FitsL X W r sem) (hg : Gl X x) (hm : X.mg x = none) (hv : bootBuiltins x = some (.type T)) (ha : SA X W (e :: es) g) (hn : x ≠ "__name__" := by decide) (hdb : (x == ("__debug__" : Str)) = false := by decide)
    (he : starEach (e :: es) X.env = (false, eval e X.env) :: starEach es X.env := by rfl) (hpl : (backTo pos (starEach es X.env)).any (·.1) = false := by rfl) : SE X W (.Call (.Name x p) (e :: es) [] pos) (fCall sem g) :=
  pe_weak (pe_callTy hc hg hm hv ha hn hdb he hpl) fun _ _ _ h => tCB_of hs h
theorem reps1 {m : Hw} {d : D} {vs : List V} (h : Reps X.K X.mg m.r m.g [d] vs) : ∃ v, vs = [v] ∧ Rep X.K X.mg m.r m.g d v := by
  cases h with
  | cons h1 h2 => cases h2; exact ⟨_, rfl, h1⟩
theorem reps2 {m : Hw} {d d' : D} {vs : List V} (h : Reps X.K X.mg m.r m.g [d, d'] vs) : ∃ v w, vs = [v, w] ∧ Rep X.K X.mg m.r m.g d v ∧ Rep X.K X.mg m.r m.g d' w := by
  cases h with
  | cons h1 h2 => cases h2 with
    | cons h3 h4 => cases h4; exact ⟨_, _, rfl, h1, h3⟩
def lenOf : D → Sto → Option Nat
  | .str x, _ => if x.length ≤ 16777216 then some x.length else none
  | .loc n, st => match st[n]? with
    | some (.lst l) => some l.length
    | some (.dict l) => some l.length
    | _ => none
  | x, st => (itemsOf x st).map List.length
def bLen : List D → Sto → Res D
  | [x], st => match lenOf x st with
    | some n => .ok (.int n) st
    | none => .bad
  | _, _ => .bad
theorem call_lenA : CallR X (.builtin "len") (fun xs H Q => (∃ x n, xs = [x] ∧ LenV X.K x H n ∧ Q (.int n) H) ∨ ∃ a kvs, xs = [V.ref a] ∧ H a = some (.dK kvs) ∧ Q (.int kvs.length) H) := call_len.or call_lenD
theorem fits_len : FitsL X W (fun xs H Q => (∃ x n, xs = [x] ∧ LenV X.K x H n ∧ Q (.int n) H) ∨ ∃ a kvs, xs = [V.ref a] ∧ H a = some (.dK kvs) ∧ Q (.int kvs.length) H) bLen := by
  intro m st σ l vs Q rm ra hp
  have seq : ∀ {x : D} {v : V} {l' : List D}, Rep X.K X.mg m.r m.g x v → itemsOf x st = some l' → LenV X.K v m.h l'.length := fun h e => by
    obtain ⟨p, vs, rfl, hs, hr⟩ := items_of rm h e
    rw [hr.length]
    rcases hs with hs | hs
    · exact .inl ⟨_, hs, rfl⟩
    · exact .inr ⟨_, hs, rfl⟩
  unfold bLen at hp
  split at hp
  · rename_i x st'
    obtain ⟨v, rfl, hv⟩ := reps1 ra
    split at hp
    · rename_i n hn
      have fin := hp.okc rm (.int _)
      unfold lenOf at hn
      split at hn
      · cases hv
        split at hn
        · rename_i hl
          cases hn
          exact .inl ⟨_, _, rfl, ⟨le_line.mp hl, rfl⟩, fin⟩
        · cases hn
      · split at hn
        · rename_i l h2
          cases hn
          exact .inl ⟨_, _, rfl, seq hv (by simp [itemsOf, h2]), fin⟩
        · rename_i l h2
          cases hn
          cases hv with
          | loc h1 =>
            obtain ⟨kvs, h3, h4, _⟩ := rm.obj _ _ _ h1 h2
            have : kvs.length = l.length := by have := congrArg List.length h4; simpa using this
            exact .inr ⟨_, kvs, rfl, h3, by rw [this]; exact fin⟩
        · cases hn
      · obtain ⟨l', h1, h2⟩ := Option.map_eq_some_iff.mp hn
        subst h2
        exact .inl ⟨_, _, rfl, seq hv h1, fin⟩
    · exact False.elim hp
  · exact False.elim hp
def bAbs : List D → Sto → Res D
  | [.int i], st => .ok (.int (if i < 0 then -i else i)) st
  | _, _ => .bad
theorem fits_abs : FitsL X W (fun xs H Q => ∃ i, xs = [.int i] ∧ Q (.int (if i < 0 then -i else i)) H) bAbs := by
  intro m st σ l vs Q rm ra hp
  unfold bAbs at hp
  split at hp
  · obtain ⟨v, rfl, hv⟩ := reps1 ra
    cases hv
    exact ⟨_, rfl, hp.okc rm (.int _)⟩
  · exact False.elim hp
def bMax : List D → Sto → Res D
  | [.int i, .int j], st => .ok (.int (if j > i then j else i)) st
  | _, _ => .bad
def bMin : List D → Sto → Res D
  | [.int i, .int j], st => .ok (.int (if j < i then j else i)) st
  | _, _ => .bad
theorem fits_max : FitsL X W (fun xs H Q => ∃ i j, xs = [.int i, .int j] ∧ Q (.int (if j > i then j else i)) H) bMax := by
  intro m st σ l vs Q rm ra hp
  unfold bMax at hp
  split at hp
  · obtain ⟨v, w, rfl, hv, hw⟩ := reps2 ra
    cases hv; cases hw
    exact ⟨_, _, rfl, hp.okc rm (.int _)⟩
  · exact False.elim hp
theorem fits_min : FitsL X W (fun xs H Q => ∃ i j, xs = [.int i, .int j] ∧ Q (.int (if j < i then j else i)) H) bMin := by
  intro m st σ l vs Q rm ra hp
  unfold bMin at hp
  split at hp
  · obtain ⟨v, w, rfl, hv, hw⟩ := reps2 ra
    cases hv; cases hw
    exact ⟨_, _, rfl, hp.okc rm (.int _)⟩
  · exact False.elim hp
def bInt : List D → Sto → Res D
  | [.int i], st => .ok (.int i) st
  | [.bl b], st => .ok (.int (if b then 1 else 0)) st
  | _, _ => .bad
theorem fits_int : FitsL X W (fun xs H Q => (∃ i, xs = [.int i] ∧ Q (.int i) H) ∨ ∃ k, xs = [.bl k] ∧ Q (.int (if k then 1 else 0)) H) bInt := by
  intro m st σ l vs Q rm ra hp
  unfold bInt at hp
  split at hp
  · obtain ⟨v, rfl, hv⟩ := reps1 ra
    cases hv
    exact .inl ⟨_, rfl, hp.okc rm (.int _)⟩
  · obtain ⟨v, rfl, hv⟩ := reps1 ra
    cases hv
    exact .inr ⟨_, rfl, hp.okc rm (.int _)⟩
  · exact False.elim hp
/-! isinstance(x, T), T a built-in class: what the type of a value is -/
def tyD : D → Sto → Option String
  | .non, _ => some "NoneType"
  | .bl _, _ => some "bool"
  | .int _, _ => some "int"
  | .str _, _ => some "str"
  | .tup _, _ => some "tuple"
  | .lst _, _ => some "list"
  | .edict, _ => some "dict"
  | .loc n, st => match st[n]? with
    | some (.lst _) => some "list"
    | some (.dict _) => some "dict"
    | _ => none
  | _, _ => none
theorem ty_of {m : Hw} {st : Sto} {d : D} {v : V} {t : String} (rm : Rel X.K X.mg m st) (h : Rep X.K X.mg m.r m.g d v) (e : tyD d st = some t) : TyX X.K m.h v (.type t) := by
  unfold tyD at e
  split at e
  · cases h; cases e; exact .base .non
  · cases h; cases e; exact .base (.bl _)
  · cases h; cases e; exact .base (.int _)
  · cases h; cases e; exact .base (.str _)
  · cases e
    cases h with
    | tup h1 h2 =>
      rcases sqT_mono rm.sub h1 with (h | ⟨o, h⟩) | ⟨o, its, n, k1, k2, _⟩
      · exact .base (.tup h)
      · exact .fTuple h
      · exact .kTuple k1 k2
  · cases e
    cases h with
    | lst h1 h2 => exact .base (.lst (rm.sub _ _ h1))
  · cases e
    cases h with
    | edict h1 => exact .base (.dK (rm.sub _ _ h1))
  · cases h with
    | loc h1 =>
      split at e
      · rename_i l h2
        cases e
        obtain ⟨vs, h3, _⟩ := rm.obj _ _ _ h1 h2
        exact .base (.lst h3)
      · rename_i l h2
        cases e
        obtain ⟨vs, h3, _⟩ := rm.obj _ _ _ h1 h2
        exact .base (.dK h3)
      · cases e
  · cases e
/-- the class of an instance -/
def clsD : D → Sto → Option Nat
  | .ins c _, _ => some c
  | .loc n, st => match st[n]? with
    | some (.ins c _) => some c
    | _ => none
  | _, _ => none
/-- what the text says of a class, for isinstance of its instances -/
structure InsC (K : PySem.W.Frag) (C : Addr) : Prop where
  cl : Cls K C
  ha : PySem.W.findIn K (.ref C) "__class__" = some (some (.builtin "object.__class__"))
  hn : PySem.W.specialIn K (.builtin "object.__class__") "__get__" = some (some (.builtin "getset_descriptor.__get__"))
  ht : PySem.W.takesIn K (.builtin "object.__class__") = some true
  hm : PySem.W.mroIn K C (.type "object") = some true
theorem cls_of {m : Hw} {st : Sto} {d : D} {v : V} {c : Nat} {C : Addr} (rm : Rel X.K X.mg m st) (h : Rep X.K X.mg m.r m.g d v) (e : clsD d st = some c) (hc : X.mg (cName c) = some (.ref C)) (I : InsC X.K C) : TyX X.K m.h v (.ref C) := by
  unfold clsD at e
  split at e
  · cases e
    cases h with
    | ins h1 h2 h3 h4 =>
      rw [hc] at h1
      cases h1
      exact .base (.ins (rm.sub _ _ h2) I.cl I.ha I.hn I.ht I.hm)
  · cases h with
    | loc h1 =>
      split at e
      · rename_i c' l h2
        cases e
        obtain ⟨C', dx, fs, h3, h4, _⟩ := rm.obj _ _ _ h1 h2
        rw [hc] at h3
        cases h3
        exact .base (.ins h4 I.cl I.ha I.hn I.ht I.hm)
      · cases e
  · cases e
/-- isinstance(x, T): T a built-in class by its name; tb: whether a built-in type's values are, cl: the classes that are asked and whether their instances are -/
def bIsi (tb : String → Option Bool) (cl : List (Nat × Bool)) : D → Sto → Res D := fun x st => match tyD x st with
  | some t => match tb t with
    | some b => .ok (.bl b) st
    | none => .bad
  | none => match clsD x st with
    | some c => match cl.lookup c with
      | some b => .ok (.bl b) st
      | none => .bad
    | none => .bad
/-- the classes' facts -/
def IsiC (X : Cx) (u : Value) : List (Nat × Bool) → Prop
  | [] => True
  | (c, b) :: l => (∃ C, X.mg (cName c) = some (.ref C) ∧ InsC X.K C ∧ PySem.W.kitOne X.K (.ref C) u = some b) ∧ IsiC X u l
theorem IsiC.get {u : Value} : ∀ {l : List (Nat × Bool)} {c : Nat} {b : Bool}, IsiC X u l → l.lookup c = some b → ∃ C, X.mg (cName c) = some (.ref C) ∧ InsC X.K C ∧ PySem.W.kitOne X.K (.ref C) u = some b
  | [], _, _, _, e => by simp at e
  | (c', b') :: l, c, b, h, e => by
    rw [List.lookup_cons] at e
    by_cases z : c = c'
    · subst z
      simp at e
      subst e
      exact h.1
    · have : (c == c') = false := by simpa using z
      rw [this] at e
      exact IsiC.get h.2 e
@[simp] def fIsi (tb : String → Option Bool) (cl : List (Nat × Bool)) (fo : EF) : EF := fun sg st => (fo sg st).bind fun x st1 => bIsi tb cl x st1
theorem se_isi {tb : String → Option Bool} {cl : List (Nat × Bool)} {c : V} {u : Value} {e2 : Expr} (hg : Gl X "isinstance") (hm : X.mg "isinstance" = none) (ho : SE X W o fo) (h2 : PE X e2 (tC c)) (hu : ClsV c u) (htb : ∀ t b, tb t = some b → PySem.W.kitOne X.K (.type t) u = some b) (hcl : IsiC X u cl)
    (he : starEach (o :: [e2]) X.env = (false, eval o X.env) :: starEach [e2] X.env := by rfl) (hpl : (backTo pos (starEach [e2] X.env)).any (·.1) = false := by rfl) (hs : starEach (e2 :: []) X.env = (false, eval e2 X.env) :: starEach [] X.env := by rfl) :
    SE X W (.Call (.Name "isinstance" p) [o, e2] [] pos) (fIsi tb cl fo) :=
  pe_weak (pe_callB call_isi hg hm (by decide +kernel) (pa_cons ho (pa_cons h2 pa_nil hs) he) (by decide) (by decide) he hpl) fun σ H Q ⟨m, sg, st, e, rm, rs, hp⟩ => ⟨m, sg, st, e, rm, rs, hp.bindc fun m1 x v st1 e1 r1 q1 hp1 => by
    unfold bIsi at hp1
    split at hp1
    · rename_i t ht
      split at hp1
      · rename_i b hb
        exact ⟨_, _, _, _, _, rfl, hu, ty_of r1 q1 ht, htb _ _ hb, hp1.okc r1 (.bl _)⟩
      · exact False.elim hp1
    · split at hp1
      · rename_i c' hc'
        split at hp1
        · rename_i b hb
          obtain ⟨C, k1, k2, k3⟩ := hcl.get hb
          exact ⟨_, _, _, _, _, rfl, hu, cls_of r1 q1 hc' k1 k2, k3, hp1.okc r1 (.bl _)⟩
        · exact False.elim hp1
      · exact False.elim hp1⟩

/-! own defs: the promise -/
theorem Post.conv {α β : Type} {K : PySem.W.Frag} {mg : Str → Option Value} {m : Hw} {σ : St} {R : Hw → α → β → Prop} {Q : β → Hp → Prop} {r : Res α} (h : Post K mg W.w m σ R Q r) : Post K mg (fun c d _ H => W.w c d σ H) m [] R Q r := by
  cases r <;> exact h
def spF (K : PySem.W.Frag) (mg : Str → Option Value) (n : Nat) (F : FF) : Sp := fun vs H Q E => ∃ m ds st, m.h = H ∧ Rel K mg m st ∧ Reps K mg m.r m.g ds vs ∧ ds.length = n ∧ Post K mg (fun c d _ H => E c d H) m [] (RD K mg) Q (F ds st)
/-- default values: the values, what they mean -/
structure Dfl (K : PySem.W.Frag) (mg : Str → Option Value) (ds : List Value) (dvs : List V) (dds : List D) : Prop where
  v : Vals dvs ds
  r : ∀ r G, Reps K mg r G dds dvs
theorem Dfl.nil {K : PySem.W.Frag} {mg : Str → Option Value} : Dfl K mg [] [] [] := ⟨.nil, fun _ _ => .nil⟩
variable {k n : Nat} {fa C : Addr} {fd : FuncData} {ps : List Str} {F : FF} {dvs : List V} {ds : List Value} {dds : List D}
/-- a def called: as many arguments as parameters, with its defaults -/
def cF (F : FF) (n : Nat) (dds : List D) : FF := fun l st => if (l ++ dds).length = n then F (l ++ dds) st else .bad
theorem se_call (hF : FnOk X.prog X.w X.K X.mg X.base (L2.CX X.prog X.w) k fa fd ps (spF X.K X.mg n F)) (hr : Room k X.A) (tk : Takes X W.w) (hg : Gl X x) (hm : X.mg x = some (.ref fa)) (hk : PySem.W.keepIn X.K (.ref fa) = true) (hb : Binds X.K fd ps ds) (hd : Dfl X.K X.mg ds dvs dds)
    (ha : SA X W (e :: es) g) (hdb : (x == ("__debug__" : Str)) = false := by decide) (he : starEach (e :: es) X.env = (false, eval e X.env) :: starEach es X.env := by rfl) (hpl : (backTo pos (starEach es X.env)).any (·.1) = false := by rfl) :
    SE X W (.Call (.Name x p) (e :: es) [] pos) (fCall (cF F n dds) g) :=
  pe_weak (pe_callSD (E := WE W.w) hF hr hg hm hk hb hd.v (fun σ => passAt tk σ) ha hdb he hpl) fun σ H Q ⟨m, sg, st, e, rm, rs, hp⟩ => ⟨m, sg, st, e, rm, rs, hp.bindc fun m1 l vs st1 e1 r1 q1 hp1 => by
    unfold cF at hp1
    split at hp1
    · rename_i hl
      exact ⟨m1, l ++ dds, st1, rfl, r1, q1.append (hd.r _ _), hl, hp1.conv⟩
    · exact False.elim hp1⟩
theorem se_call0 (hF : FnOk X.prog X.w X.K X.mg X.base (L2.CX X.prog X.w) k fa fd ps (spF X.K X.mg n F)) (hr : Room k X.A) (tk : Takes X W.w) (hg : Gl X x) (hm : X.mg x = some (.ref fa)) (hk : PySem.W.keepIn X.K (.ref fa) = true) (hb : Binds X.K fd ps ds) (hd : Dfl X.K X.mg ds dvs dds)
    (hdb : (x == ("__debug__" : Str)) = false := by decide) : SE X W (.Call (.Name x p) [] [] pos) (fun _ st => cF F n dds [] st) := by
  refine ⟨fun pins s σ H Q I h => ?_⟩
  obtain ⟨m, sg, st, rfl, rm, rs, hp⟩ := h
  refine wpAny_Call_Name_kw (ld_glob I hg hm ?_ hdb)
  refine PySem.W.callWith_K0 I.kIn hk (run_fnSD (us := []) (vs := []) (E := WE W.w) hF hr hb hd.v (passAt tk σ) I .nil ?_)
  unfold cF at hp
  split at hp
  · rename_i hl
    exact ⟨m, dds, st, rfl, rm, hd.r _ _, hl, hp.conv⟩
  · exact False.elim hp
/-! objects -/
def insOf (c : Nat) : D → Sto → Option (List D)
  | .ins c' l, _ => if c' = c then some l else none
  | .loc n, st => match st[n]? with
    | some (.ins c' l) => if c' = c then some l else none
    | _ => none
  | _, _ => none
theorem ins_of {m : Hw} {st : Sto} {d : D} {v : V} {c : Nat} {l : List D} {C : Addr} (rm : Rel X.K X.mg m st) (h : Rep X.K X.mg m.r m.g d v) (e : insOf c d st = some l) (hc : X.mg (cName c) = some (.ref C)) :
    ∃ a dx fs, v = .ref a ∧ m.h a = some (.ins C dx fs) ∧ fs.map (·.1) = (cFlds c).take l.length ∧ Reps X.K X.mg m.r m.g l (fs.map (·.2)) := by
  unfold insOf at e
  split at e
  · split at e
    · rename_i hc'
      subst hc'
      cases e
      cases h with
      | ins h1 h2 h3 h4 =>
        rw [hc] at h1
        cases h1
        exact ⟨_, _, _, rfl, rm.sub _ _ h2, h3, h4⟩
    · cases e
  · cases h with
    | loc h1 =>
      split at e
      · rename_i c' l' h2
        split at e
        · rename_i hc'
          subst hc'
          cases e
          obtain ⟨C', dx, fs, h3, h4, h5, h6⟩ := rm.obj _ _ _ h1 h2
          rw [hc] at h3
          cases h3
          exact ⟨_, _, _, rfl, h4, h5, h6⟩
        · cases e
      · cases e
  · cases e
theorem lookup_at : ∀ {fs : List (Str × V)} {ns : List Str} {i : Nat} {f : Str} {v : V}, fs.map (·.1) = ns → ns.Nodup → ns[i]? = some f → (fs.map (·.2))[i]? = some v → fs.lookup f = some v
  | [], ns, i, f, v, h, _, e, _ => by simp at h; subst h; simp at e
  | (f', v') :: fs, ns, i, f, v, h, nd, e1, e2 => by
    simp at h
    subst h
    cases i with
    | zero =>
      simp at e1 e2
      subst e1; subst e2
      simp [List.lookup_cons]
    | succ i =>
      simp at e1 e2
      have hne : (f == f') = false := by
        have : f ≠ f' := fun z => by
          subst z
          exact (List.nodup_cons.mp nd).1 (List.mem_of_getElem? (i := i) (by simpa using e1))
        simpa using this
      rw [List.lookup_cons, hne]
      refine lookup_at rfl (List.nodup_cons.mp nd).2 (i := i) ?_ ?_
      · simpa using e1
      · simpa using e2
theorem lookup_none {fs : List (Str × V)} {ns : List Str} {f : Str} (h : fs.map (·.1) = ns) (hn : f ∉ ns) : fs.lookup f = none := by
  rw [List.lookup_eq_none_iff]
  intro p hp
  have : p.1 ∈ ns := by rw [← h]; exact List.mem_map_of_mem hp
  have : f ≠ p.1 := fun z => hn (z ▸ this)
  simpa using this
@[simp] def fFld (c i : Nat) (fo : EF) : EF := fun sg st => (fo sg st).bind fun x st1 => match insOf c x st1 with
  | some l => match l[i]? with
    | some d => .ok d st1
    | none => .bad
  | none => .bad
theorem take_at {l : List Str} {n i : Nat} {f : Str} (h : l[i]? = some f) (hi : i < n) : (l.take n)[i]? = some f := by
  rw [List.getElem?_take_of_lt hi]; exact h
theorem se_fld {c i : Nat} (hc : X.mg (cName c) = some (.ref C)) (cl : Cls X.K C) (na : NoAttr X.K C m) (hf : (cFlds c)[i]? = some m) (hnd : (cFlds c).Nodup) (ho : SE X W o fo) (hb : attributeBase o m X.env (eval o X.env) = eval o X.env := by rfl) : SE X W (.Attribute o m pos) (fFld c i fo) :=
  pe_weak (pe_fld ho hb) fun σ H Q ⟨w, sg, st, e, rm, rs, hp⟩ => ⟨w, sg, st, e, rm, rs, hp.bindc fun m1 x v st1 e1 r1 q1 hp1 => by
    split at hp1
    · rename_i l hl
      split at hp1
      · rename_i d hd
        obtain ⟨a, dx, fs, rfl, h1, h2, h3⟩ := ins_of r1 q1 hl hc
        obtain ⟨v, h4, h5⟩ := h3.get hd
        have hi : i < l.length := (List.getElem?_eq_some_iff.mp hd).1
        exact ⟨a, C, dx, fs, v, rfl, h1, cl, na, lookup_at h2 (hnd.sublist (List.take_sublist _ _)) (take_at hf hi) h4, hp1.okc r1 h5⟩
      · exact False.elim hp1
    · exact False.elim hp1⟩
/-! methods -/
@[simp] def fMeth (c : Nat) (F : FF) (n : Nat) (dds : List D) (fo : EF) (g : AF) : EF := fun sg st => (fo sg st).bind fun x st1 => match insOf c x st1 with
  | some _ => (g sg st1).bind fun l st2 => cF F n dds (x :: l) st2
  | none => .bad
/-- a bound method runs -/
theorem run_meth {σ : St} {Q : VK} {pins : List (Addr × Obj)} {a : Addr} {us : List Value} {s2 : Shared} {m1 m2 : Hw} {l : List D} {vs : List V} {st2 : Sto} {d : D}
    (hF : FnOk X.prog X.w X.K X.mg X.base (L2.CX X.prog X.w) k fa fd ps (spF X.K X.mg n F)) (hr : Room k X.A) (tk : Takes X W.w) (hb : Binds X.K fd ps ds) (hd : Dfl X.K X.mg ds dvs dds) (q1 : Rep X.K X.mg m1.r m1.g d (.ref a))
    (I2 : Inv X pins σ m2.h s2) (rv2 : Vals vs us) (e2 : Ext m1 m2) (r2 : Rel X.K X.mg m2 st2) (q2 : Reps X.K X.mg m2.r m2.g l vs) (hp2 : Post X.K X.mg W.w m2 σ (RD X.K X.mg) Q (cF F n dds (d :: l) st2)) :
    wpAny (model X.prog X.w) X.A (call (.ref fa) (Value.ref a :: us)) (EP X pins σ Q) X.xe s2 := by
  unfold cF at hp2
  split at hp2
  · rename_i hl
    exact run_fnSD (us := Value.ref a :: us) (vs := V.ref a :: vs) (E := WE W.w) hF hr hb hd.v (passAt tk σ) I2 (.cons rfl rv2) ⟨m2, d :: (l ++ dds), st2, rfl, r2, .cons (q1.mono e2) (q2.append (hd.r _ _)), by simpa using hl, hp2.conv⟩
  · exact False.elim hp2
def MPost (X : Cx) (W : We) (σ : St) (sg : Sg) (Q : VK) (k : D → Sto → Res D) : VK := fun v H1 => ∃ m1 x st1, m1.h = H1 ∧ Rel X.K X.mg m1 st1 ∧ SgRep X.K X.mg W.e m1 sg σ ∧ Rep X.K X.mg m1.r m1.g x v ∧ Post X.K X.mg W.w m1 σ (RD X.K X.mg) Q (k x st1)
theorem se_meth {c : Nat} {pl : Sem Bool} (hF : FnOk X.prog X.w X.K X.mg X.base (L2.CX X.prog X.w) k fa fd ps (spF X.K X.mg n F)) (hr : Room k X.A) (tk : Takes X W.w) (hc : X.mg (cName c) = some (.ref C)) (cl : Cls X.K C) (hme : Meth X.K C m fa) (hnf : m ∉ cFlds c) (hb : Binds X.K fd ps ds) (hd : Dfl X.K X.mg ds dvs dds)
    (ho : SE X W o fo) (ha : SA X W (e :: es) g) (hst : starEach (e :: es) X.env = (false, eval e X.env) :: starEach es X.env := by rfl) (hpl : (backTo pos (starEach es X.env)).any (·.1) = false := by rfl)
    (ht : eval (.Call (.Attribute o m apos) (e :: es) [] pos) X.env = (do
      let ov ← eval o X.env
      standAt apos.atName
      let (f, first) ← holding [ov] (getMethod ov m pl)
      callWith pos f first (backTo pos (starEach (e :: es) X.env)) (backToKw pos (keywordEach [] X.env))) := by rfl) :
    SE X W (.Call (.Attribute o m apos) (e :: es) [] pos) (fMeth c F n dds fo g) := by
  refine ⟨fun pins s σ H Q I h => ?_⟩
  obtain ⟨w, sg, st, rfl, rm, rs, hp⟩ := h
  refine PySem.W.methodCall_KW (pl := pl) (thn (ho.run pins s σ w.h (MPost X W σ sg Q fun x st1 => match insOf c x st1 with
    | some _ => (g sg st1).bind fun l st2 => cF F n dds (x :: l) st2
    | none => .bad) I ⟨w, sg, st, rfl, rm, rs, hp.bindc fun m1 x v st1 e1 r1 q1 hp1 => ⟨m1, x, st1, rfl, r1, rs.mono e1, q1, hp1⟩⟩) fun u s1 hh => ?_) ht
  obtain ⟨v, H1, I1, rv, m1, x, st1, rfl, r1, rs1, q1, hp1⟩ := hh
  dsimp only at hp1
  split at hp1
  · rename_i l0 hl0
    obtain ⟨a, dx, fs, rfl, h1, h2, h3⟩ := ins_of r1 q1 hl0 hc
    obtain rfl : u = Value.ref a := rv
    refine getmeth_ok I1 h1 cl hme (lookup_none h2 fun z => hnf (List.mem_of_mem_take z)) ?_
    refine PySem.W.callWith_K (first := [.ref a]) (h₀ := X.base) I1.ok.mod.kin hme.kp (thn (ha.run pos pins s1 σ m1.h (fun vs H2 => ∃ m2 l st2, m2.h = H2 ∧ Ext m1 m2 ∧ Rel X.K X.mg m2 st2 ∧ Reps X.K X.mg m2.r m2.g l vs ∧ Post X.K X.mg W.w m2 σ (RD X.K X.mg) Q (cF F n dds (x :: l) st2)) I1
      ⟨m1, sg, st1, rfl, r1, rs1, hp1.bindc fun m2 l vs st2 e2 r2 q2 hp2 => ⟨m2, l, st2, rfl, e2, r2, q2, hp2⟩⟩) fun us s2 hz => ?_) hst hpl
    obtain ⟨vs, H2, I2, rv2, m2, l, st2, rfl, e2, r2, q2, hp2⟩ := hz
    exact ⟨I2.kIn, run_meth hF hr tk hb hd q1 I2 rv2 e2 r2 q2 hp2⟩
  · exact False.elim hp1
theorem se_meth0 {c : Nat} {pl : Sem Bool} (hF : FnOk X.prog X.w X.K X.mg X.base (L2.CX X.prog X.w) k fa fd ps (spF X.K X.mg n F)) (hr : Room k X.A) (tk : Takes X W.w) (hc : X.mg (cName c) = some (.ref C)) (cl : Cls X.K C) (hme : Meth X.K C m fa) (hnf : m ∉ cFlds c) (hb : Binds X.K fd ps ds) (hd : Dfl X.K X.mg ds dvs dds)
    (ho : SE X W o fo)
    (ht : eval (.Call (.Attribute o m apos) [] [] pos) X.env = (do
      let ov ← eval o X.env
      standAt apos.atName
      let (f, first) ← holding [ov] (getMethod ov m pl)
      callWith pos f first (backTo pos (starEach [] X.env)) (backToKw pos (keywordEach [] X.env))) := by rfl) :
    SE X W (.Call (.Attribute o m apos) [] [] pos) (fMeth c F n dds fo aNil) := by
  refine ⟨fun pins s σ H Q I h => ?_⟩
  obtain ⟨w, sg, st, rfl, rm, rs, hp⟩ := h
  refine PySem.W.methodCall_KW (pl := pl) (thn (ho.run pins s σ w.h (MPost X W σ sg Q fun x st1 => match insOf c x st1 with
    | some _ => cF F n dds [x] st1
    | none => .bad) I ⟨w, sg, st, rfl, rm, rs, hp.bindc fun m1 x v st1 e1 r1 q1 hp1 => ⟨m1, x, st1, rfl, r1, rs.mono e1, q1, hp1⟩⟩) fun u s1 hh => ?_) ht
  obtain ⟨v, H1, I1, rv, m1, x, st1, rfl, r1, rs1, q1, hp1⟩ := hh
  dsimp only at hp1
  split at hp1
  · rename_i l0 hl0
    obtain ⟨a, dx, fs, rfl, h1, h2, h3⟩ := ins_of r1 q1 hl0 hc
    obtain rfl : u = Value.ref a := rv
    refine getmeth_ok I1 h1 cl hme (lookup_none h2 fun z => hnf (List.mem_of_mem_take z)) ?_
    exact PySem.W.callWith_K0 (first := [.ref a]) I1.kIn hme.kp (run_meth (us := []) hF hr tk hb hd q1 I1 .nil (Ext.refl m1) r1 .nil hp1)
  · exact False.elim hp1
end
end Sh
/-! Part E: statements, loops, comprehensions, defs. -/
namespace Sh
open PySem L2
def Res.flw {α : Type} (r : Res α) (sg : Sg) (k : α → Sto → Flw) : Flw := match r with
  | .ok a st => k a st
  | .exc c o st => .exc c o sg st
  | .bad => .bad
@[simp] theorem Res.flw_ok {α : Type} (a : α) (st : Sto) (sg : Sg) (k : α → Sto → Flw) : (Res.ok a st).flw sg k = k a st := rfl
@[simp] theorem Res.flw_exc {α : Type} (c : Nat) (o : Option D) (st : Sto) (sg : Sg) (k : α → Sto → Flw) : (Res.exc c o st : Res α).flw sg k = .exc c o sg st := rfl
@[simp] theorem Res.flw_bad {α : Type} (sg : Sg) (k : α → Sto → Flw) : (Res.bad : Res α).flw sg k = .bad := rfl
theorem Res.flw_cg {α : Type} {x y : Res α} {sg : Sg} {k : α → Sto → Flw} (h : x = y) : x.flw sg k = y.flw sg k := by rw [h]
def Flw.seq (x : Flw) (k : Sg → Sto → Flw) : Flw := match x with
  | .nx sg st => k sg st
  | r => r
@[simp] theorem Flw.seq_nx (sg : Sg) (st : Sto) (k : Sg → Sto → Flw) : (Flw.nx sg st).seq k = k sg st := rfl
@[simp] theorem Flw.seq_ret (d : D) (st : Sto) (k : Sg → Sto → Flw) : (Flw.ret d st).seq k = .ret d st := rfl
@[simp] theorem Flw.seq_brk (sg : Sg) (st : Sto) (k : Sg → Sto → Flw) : (Flw.brk sg st).seq k = .brk sg st := rfl
@[simp] theorem Flw.seq_cnt (sg : Sg) (st : Sto) (k : Sg → Sto → Flw) : (Flw.cnt sg st).seq k = .cnt sg st := rfl
@[simp] theorem Flw.seq_exc (c : Nat) (o : Option D) (sg : Sg) (st : Sto) (k : Sg → Sto → Flw) : (Flw.exc c o sg st).seq k = .exc c o sg st := rfl
@[simp] theorem Flw.seq_bad (k : Sg → Sto → Flw) : Flw.bad.seq k = .bad := rfl
theorem Flw.seq_cg {x y : Flw} {k : Sg → Sto → Flw} (h : x = y) : x.seq k = y.seq k := by rw [h]
def Flw.loop (x : Flw) (k : Sg → Sto → Flw) : Flw := match x with
  | .nx sg st => k sg st
  | .cnt sg st => k sg st
  | .brk sg st => .nx sg st
  | r => r
@[simp] theorem Flw.loop_nx (sg : Sg) (st : Sto) (k : Sg → Sto → Flw) : (Flw.nx sg st).loop k = k sg st := rfl
@[simp] theorem Flw.loop_ret (d : D) (st : Sto) (k : Sg → Sto → Flw) : (Flw.ret d st).loop k = .ret d st := rfl
@[simp] theorem Flw.loop_brk (sg : Sg) (st : Sto) (k : Sg → Sto → Flw) : (Flw.brk sg st).loop k = .nx sg st := rfl
@[simp] theorem Flw.loop_cnt (sg : Sg) (st : Sto) (k : Sg → Sto → Flw) : (Flw.cnt sg st).loop k = k sg st := rfl
@[simp] theorem Flw.loop_exc (c : Nat) (o : Option D) (sg : Sg) (st : Sto) (k : Sg → Sto → Flw) : (Flw.exc c o sg st).loop k = .exc c o sg st := rfl
@[simp] theorem Flw.loop_bad (k : Sg → Sto → Flw) : Flw.bad.loop k = .bad := rfl
theorem Flw.loop_cg {x y : Flw} {k : Sg → Sto → Flw} (h : x = y) : x.loop k = y.loop k := by rw [h]
@[simp] def sNil : SF := fun sg st => .nx sg st
@[simp] def sSeq (g h : SF) : SF := fun sg st => (g sg st).seq h
@[simp] def sDrop (f : EF) : SF := fun sg st => (f sg st).flw sg fun _ st1 => .nx sg st1
@[simp] def sSet (i : Nat) (f : EF) : SF := fun sg st => (f sg st).flw sg fun d st1 => .nx (sg.set i (some d)) st1
@[simp] def sRet (f : EF) : SF := fun sg st => (f sg st).flw sg fun d st1 => .ret d st1
@[simp] def sRetN : SF := fun _ st => .ret .non st
@[simp] def sIf (t : TF) (g h : SF) : SF := fun sg st => (t sg st).flw sg fun b st1 => if b = true then g sg st1 else h sg st1
@[simp] def sBrk : SF := fun sg st => .brk sg st
@[simp] def sCnt : SF := fun sg st => .cnt sg st
def whF (t : TF) (g : SF) : Nat → SF
  | 0, _, _ => .bad
  | n + 1, sg, st => (t sg st).flw sg fun b st1 => if b = true then (g sg st1).loop (whF t g n) else .nx sg st1
/-- more than any loop's turns; only its size is used -/
@[irreducible] def fuel : Nat := Nat.pow 2 4000
def sWhile (n : Nat) (t : TF) (g : SF) : SF := whF t g n

section
variable {X : Cx} {W : We} {e o a b c : Expr} {es : List Expr} {f fo fa fb : EF} {g : AF} {pos p apos pos' : Pos} {x : Str} {t : TF} {gs hs : SF} {st : Stmt} {rest body : List Stmt}
theorem flwc {α β : Type} {K : PySem.W.Frag} {mg : Str → Option Value} {m : Hw} {σ : St} {sg : Sg} {D : Ends} {r : Res α} {k : α → Sto → Flw} {R : Hw → α → β → Prop} {Q : β → Hp → Prop}
    (hp : PostS K mg W m D (r.flw sg k)) (rs : SgRep K mg W.e m sg σ) (h : ∀ m1 y v st1, Ext m m1 → Rel K mg m1 st1 → R m1 y v → PostS K mg W m1 D (k y st1) → Q v m1.h) : Post K mg W.w m σ R Q r := by
  cases r with
  | ok y st => exact fun m' v e r q => h m' y v st e r q (PostS.mono hp e)
  | exc c o st => exact fun m' cls dx e r q => hp m' σ cls dx e r (rs.mono e) q
  | bad => exact hp
theorem ss_nil : SSs X W [] sNil := pss_weak pss_nil fun D σ H ⟨m, sg, st, e, rm, rs, hp⟩ => by
  subst e; exact hp m σ (Ext.refl m) rm rs
theorem ss_cons (h1 : SS X W st gs) (h2 : SSs X W rest hs) : SSs X W (st :: rest) (sSeq gs hs) :=
  pss_weak (pss_cons h1 h2) fun D σ H ⟨m, sg, st, e, rm, rs, hp⟩ => ⟨m, sg, st, e, rm, rs, by
    unfold sSeq at hp
    cases q : gs sg st with
    | nx sg1 st1 =>
      rw [q] at hp
      exact fun m' σ' e' r' s' => ⟨m', sg1, st1, rfl, r', s', PostS.mono hp e'⟩
    | ret d st1 => rw [q] at hp; exact hp
    | brk sg1 st1 => rw [q] at hp; exact hp
    | cnt sg1 st1 => rw [q] at hp; exact hp
    | exc c o sg1 st1 => rw [q] at hp; exact hp
    | bad => rw [q] at hp; exact hp⟩
theorem ss_one (h1 : SS X W st gs) : SSs X W [st] gs := pss_one h1
theorem ss_drop (he : SE X W e f) (hs : swapsWith e none pos.line X.env = pure false := by rfl) : SS X W (.Expr e pos) (sDrop f) :=
  ps_weak (ps_expr he hs) fun D σ H ⟨m, sg, st, e, rm, rs, hp⟩ => ⟨m, sg, st, e, rm, rs, flwc hp rs fun m1 y v st1 e1 r1 q1 hp1 => hp1 m1 σ (Ext.refl _) r1 (rs.mono e1)⟩
theorem ss_set {i : Nat} (hN : X.N.Nodup) (hi : X.N[i]? = some x) (hx : Loc X.env.scope x) (he : SE X W e f) (hs : swapsWith e (some (.Name x pos')) pos.line X.env = pure false := by rfl) (hf : X.fn x = true ∨ X.env.scope.names.lookup x = some .local := by first | exact .inl rfl | exact .inr rfl | assumption) :
    SS X W (.Assign [.Name x pos'] e pos) (sSet i f) :=
  ps_weak (ps_set hN hi hx he hs hf) fun D σ H ⟨m, sg, st, e, rm, rs, hp⟩ => ⟨m, sg, st, e, rm, rs, flwc hp rs fun m1 y v st1 e1 r1 q1 hp1 => hp1 m1 _ (Ext.refl _) r1 ((rs.mono e1).set i (.inl q1))⟩
theorem ss_ret (he : SE X W e f) : SS X W (.Return (some e) pos) (sRet f) :=
  ps_weak (ps_ret he) fun D σ H ⟨m, sg, st, e, rm, rs, hp⟩ => ⟨m, sg, st, e, rm, rs, flwc hp rs fun m1 y v st1 e1 r1 q1 hp1 => hp1 m1 v (Ext.refl _) r1 q1⟩
theorem ss_retN : SS X W (.Return none pos) sRetN := ps_weak ps_retN fun D σ H ⟨m, sg, st, e, rm, rs, hp⟩ => by
  subst e; exact hp m .non (Ext.refl m) rm .non
theorem ss_pass : SS X W (.Pass pos) sNil := ps_weak ps_pass fun D σ H ⟨m, sg, st, e, rm, rs, hp⟩ => by
  subst e; exact hp m σ (Ext.refl m) rm rs
theorem ss_brk : SS X W (.Break pos) sBrk := ps_weak ps_break fun D σ H ⟨m, sg, st, e, rm, rs, hp⟩ => by
  subst e; exact hp m σ (Ext.refl m) rm rs
theorem ss_cnt : SS X W (.Continue pos) sCnt := ps_weak ps_continue fun D σ H ⟨m, sg, st, e, rm, rs, hp⟩ => by
  subst e; exact hp m σ (Ext.refl m) rm rs
theorem ss_if {p q : List Stmt} (hc : SB X W c t) (ha : SSs X W p gs) (hb : SSs X W q hs) : SS X W (.If c p q pos) (sIf t gs hs) :=
  ps_weak (ps_if hc ha hb) fun D σ H ⟨m, sg, st, e, rm, rs, hp⟩ => ⟨m, sg, st, e, rm, rs, flwc hp rs fun m1 y v st1 e1 r1 q1 hp1 => by
    cases q1
    cases y with
    | true => exact ⟨m1, sg, st1, rfl, r1, rs.mono e1, hp1⟩
    | false => exact ⟨m1, sg, st1, rfl, r1, rs.mono e1, hp1⟩⟩
/-- an unreachable statement -/
theorem ss_never : SS X W st fun _ _ => .bad := ps_weak ps_never fun D σ H ⟨m, sg, st, e, rm, rs, hp⟩ => hp
theorem ss_nevers : SSs X W rest fun _ _ => .bad := pss_weak pss_never fun D σ H ⟨m, sg, st, e, rm, rs, hp⟩ => hp
theorem loopc {K : PySem.W.Frag} {mg : Str → Option Value} {m : Hw} {D : Ends} {y : Flw} {k : Sg → Sto → Flw} {N : St → Hp → Prop} (hp : PostS K mg W m D (y.loop k))
    (h : ∀ m1 σ1 sg1 st1, Ext m m1 → Rel K mg m1 st1 → SgRep K mg W.e m1 sg1 σ1 → PostS K mg W m1 D (k sg1 st1) → N σ1 m1.h) : PostS K mg W m { D with nx := N, ct := N, bk := D.nx } y := by
  cases y with
  | nx sg st => exact fun m' σ' e r s => h m' σ' sg st e r s (PostS.mono hp e)
  | cnt sg st => exact fun m' σ' e r s => h m' σ' sg st e r s (PostS.mono hp e)
  | brk sg st => exact hp
  | ret d st => exact hp
  | exc c o sg st => exact hp
  | bad => exact hp
theorem ss_while {n : Nat} (hpo : PassesOwn (model X.prog X.w) X.A X.env X.xe) (hc : SB X W c t) (hb : SSs X W body gs) : SS X W (.While c body [] pos) (sWhile n t gs) :=
  ps_weak (ps_while hpo hc hb) fun D σ H ⟨m, sg, st, e, rm, rs, hp⟩ => by
    refine ⟨fun k σ H => ∃ m1 sg st, m1.h = H ∧ Rel X.K X.mg m1 st ∧ SgRep X.K X.mg W.e m1 sg σ ∧ PostS X.K X.mg W m1 D (whF t gs k sg st), ⟨n, m, sg, st, e, rm, rs, hp⟩, ?_⟩
    rintro k σ1 H1 ⟨m1, sg1, st1, rfl, r1, s1, p1⟩
    cases k with
    | zero => exact False.elim p1
    | succ k =>
      refine ⟨m1, sg1, st1, rfl, r1, s1, flwc p1 s1 fun m2 y v st2 e2 r2 q2 p2 => ?_⟩
      cases q2
      cases y with
      | true =>
        rw [if_pos rfl] at p2
        exact iteT ⟨fun σ' H' => ∃ m1 sg st, m1.h = H' ∧ Rel X.K X.mg m1 st ∧ SgRep X.K X.mg W.e m1 sg σ' ∧ PostS X.K X.mg W m1 D (whF t gs k sg st), fun σ' H' z => ⟨k, Nat.lt_succ_self k, z⟩, m2, sg1, st2, rfl, r2, s1.mono e2,
          loopc p2 fun m3 σ3 sg3 st3 e3 r3 s3 p3 => ⟨m3, sg3, st3, rfl, r3, s3, p3⟩⟩
      | false =>
        rw [if_neg Bool.false_ne_true] at p2
        exact iteF (p2 m2 σ1 (Ext.refl _) r2 (s1.mono e2))

/-! targets -/
inductive Tg1 where
  | nm (i : Nat)
  | tp (l : List Nat)
inductive Tg where
  | one (i : Nat)
  | many (l : List Nat)
  | nest (l : List Tg1)
@[simp] def setL : List Nat → List D → Sg → Option Sg
  | [], [], sg => some sg
  | i :: l, d :: r, sg => setL l r (sg.set i (some d))
  | _, _, _ => none
@[simp] def setN : List Tg1 → List D → Sg → Option Sg
  | [], [], sg => some sg
  | .nm i :: l, d :: r, sg => setN l r (sg.set i (some d))
  | .tp is :: l, .tup ds :: r, sg => match setL is ds sg with
    | some sg1 => setN l r sg1
    | none => none
  | _, _, _ => none
@[simp] def setT : Tg → D → Sg → Option Sg
  | .one i, d, sg => some (sg.set i (some d))
  | .many l, .tup ds, sg => setL l ds sg
  | .nest l, .tup ds, sg => setN l ds sg
  | _, _, _ => none
def gNs : List Nat → TGs
  | [] => gNil
  | i :: l => gCons (gName i) (gNs l)
def gN1 (K : PySem.W.Frag) : Tg1 → TG
  | .nm i => gName i
  | .tp l => gTup K l.length (gNs l)
def gNn (K : PySem.W.Frag) : List Tg1 → TGs
  | [] => gNil
  | t :: l => gCons (gN1 K t) (gNn K l)
def gTg (K : PySem.W.Frag) : Tg → TG
  | .one i => gName i
  | .many l => gTup K l.length (gNs l)
  | .nest l => gTup K l.length (gNn K l)
def tgSl1 : Tg1 → List Nat
  | .nm i => [i]
  | .tp l => l
def tgSl : Tg → List Nat
  | .one i => [i]
  | .many l => l
  | .nest l => l.flatMap tgSl1
def setV : List Nat → List V → St → St
  | i :: l, v :: r, σ => setV l r (σ.set i (some v))
  | _, _, σ => σ
theorem gNs_of {H : Hp} {Q : St → Hp → Prop} : ∀ {l : List Nat} {vs : List V} {σ : St}, vs.length = l.length → Q (setV l vs σ) H → gNs l vs σ H Q
  | [], [], σ, _, h => ⟨rfl, h⟩
  | i :: l, v :: vs, σ, e, h => ⟨v, vs, rfl, gNs_of (by simpa using e) h⟩
  | [], _ :: _, _, e, _ => by simp at e
  | _ :: _, [], _, e, _ => by simp at e
theorem setL_rep {K : PySem.W.Frag} {mg : Str → Option Value} {y : Option Ex} {m : Hw} : ∀ {l : List Nat} {ds : List D} {vs : List V} {sg sg' : Sg} {σ : St}, setL l ds sg = some sg' → Reps K mg m.r m.g ds vs → SgRep K mg y m sg σ → SgRep K mg y m sg' (setV l vs σ) ∧ vs.length = l.length
  | [], [], _, sg, sg', σ, h, r, s => by
    cases r
    simp at h; subst h
    exact ⟨s, rfl⟩
  | i :: l, d :: ds, _, sg, sg', σ, h, r, s => by
    cases r with
    | cons r1 r2 =>
      obtain ⟨h1, h2⟩ := setL_rep (l := l) (by simpa using h) r2 (s.set i (.inl r1))
      exact ⟨h1, by simp [h2]⟩
  | [], _ :: _, _, _, _, _, h, _, _ => by simp at h
  | _ :: _, [], _, _, _, _, h, _, _ => by simp at h
theorem wipe_set {σ : St} {i : Nat} {v : Option V} : ∀ {vs : List Nat}, i ∈ vs → wipe (σ.set i v) vs = wipe σ vs
  | [], h => by simp at h
  | j :: vs, h => by
    unfold wipe
    by_cases e : i ∈ vs
    · rw [wipe_set e]
    · have : i = j := by
        rcases List.mem_cons.mp h with h | h
        · exact h
        · exact absurd h e
      subst this
      have : ∀ {σ : St} {vs : List Nat}, i ∉ vs → (wipe (σ.set i v) vs).set i none = (wipe σ vs).set i none := by
        intro σ vs
        induction vs with
        | nil => intro _; unfold wipe; rw [List.set_set]
        | cons k vs ih =>
          intro hk
          have h1 : i ≠ k := fun z => hk (by simp [z])
          have h2 : i ∉ vs := fun z => hk (List.mem_cons_of_mem _ z)
          unfold wipe
          rw [List.set_comm _ _ (Ne.symm h1), ih h2, List.set_comm _ _ h1]
      exact this e
theorem wipe_setV : ∀ {l : List Nat} {vs : List V} {σ : St} {ws : List Nat}, (∀ i ∈ l, i ∈ ws) → wipe (setV l vs σ) ws = wipe σ ws
  | [], _, _, _, _ => rfl
  | i :: l, [], _, _, _ => rfl
  | i :: l, v :: vs, σ, ws, h => by
    show wipe (setV l vs (σ.set i (some v))) ws = _
    rw [wipe_setV fun j hj => h j (List.mem_cons_of_mem _ hj), wipe_set (h i List.mem_cons_self)]
theorem gNn_of {K : PySem.W.Frag} {mg : Str → Option Value} {y : Option Ex} {m : Hw} {s : Sto} {ws : List Nat} {Q : St → Hp → Prop} (rm : Rel K mg m s) : ∀ {l : List Tg1} {ds : List D} {vs : List V} {sg sg' : Sg} {σ : St}, setN l ds sg = some sg' → Reps K mg m.r m.g ds vs → SgRep K mg y m sg σ →
    (∀ σ', SgRep K mg y m sg' σ' → ((∀ i ∈ l.flatMap tgSl1, i ∈ ws) → wipe σ' ws = wipe σ ws) → Q σ' m.h) → gNn K l vs σ m.h Q ∧ vs.length = l.length
  | [], [], _, sg, sg', σ, h, r, q, k => by
    cases r
    simp at h; subst h
    exact ⟨⟨rfl, k _ q fun _ => rfl⟩, rfl⟩
  | .nm i :: l, d :: ds, _, sg, sg', σ, h, r, q, k => by
    cases r with
    | cons r1 r2 =>
      obtain ⟨h1, h2⟩ := gNn_of (l := l) (Q := Q) rm (by simpa using h) r2 (q.set i (.inl r1)) fun σ' s' hw => k σ' s' fun z => by
        rw [hw fun j hj => z j (by simp at hj ⊢; exact .inr hj), wipe_set (z i (by simp [tgSl1]))]
      exact ⟨⟨_, _, rfl, h1⟩, by simp [h2]⟩
  | .tp is :: l, .tup xs :: ds, _, sg, sg', σ, h, r, q, k => by
    cases r with
    | cons r1 r2 =>
      cases r1 with
      | tup a1 a2 =>
        unfold setN at h
        split at h
        · rename_i sg1 hs
          obtain ⟨b1, b2⟩ := setL_rep hs a2 q
          obtain ⟨h1, h2⟩ := gNn_of (l := l) (Q := Q) rm h r2 b1 fun σ' s' hw => k σ' s' fun z => by
            rw [hw fun j hj => z j (by simp at hj ⊢; exact .inr hj), wipe_setV fun i hi => z i (by simp [tgSl1, hi])]
          exact ⟨⟨_, _, rfl, ⟨_, _, rfl, sqT_mono rm.sub a1, b2, gNs_of b2 h1⟩⟩, by simp [h2]⟩
        · cases h
  | [], _ :: _, _, _, _, _, h, _, _, _ => by simp at h
  | .nm _ :: _, [], _, _, _, _, h, _, _, _ => by simp at h
  | .tp _ :: _, [], _, _, _, _, h, _, _, _ => by simp at h
  | .tp _ :: _, .non :: _, _, _, _, _, h, _, _, _ => by simp at h
  | .tp _ :: _, .bl _ :: _, _, _, _, _, h, _, _, _ => by simp at h
  | .tp _ :: _, .int _ :: _, _, _, _, _, h, _, _, _ => by simp at h
  | .tp _ :: _, .str _ :: _, _, _, _, _, h, _, _, _ => by simp at h
  | .tp _ :: _, .lst _ :: _, _, _, _, _, h, _, _, _ => by simp at h
  | .tp _ :: _, .ins _ _ :: _, _, _, _, _, h, _, _, _ => by simp at h
  | .tp _ :: _, .loc _ :: _, _, _, _, _, h, _, _, _ => by simp at h
  | .tp _ :: _, .scr _ :: _, _, _, _, _, h, _, _, _ => by simp at h
  | .tp _ :: _, .edict :: _, _, _, _, _, h, _, _, _ => by simp at h
  | .tp _ :: _, .exn :: _, _, _, _, _, h, _, _, _ => by simp at h
theorem tg_of {K : PySem.W.Frag} {mg : Str → Option Value} {y : Option Ex} {m : Hw} {s : Sto} {sg sg' : Sg} {σ : St} {t : Tg} {d : D} {v : V} {ws : List Nat} {Q : St → Hp → Prop} (rm : Rel K mg m s) (h : setT t d sg = some sg') (r : Rep K mg m.r m.g d v) (q : SgRep K mg y m sg σ)
    (k : ∀ σ', SgRep K mg y m sg' σ' → ((∀ i ∈ tgSl t, i ∈ ws) → wipe σ' ws = wipe σ ws) → Q σ' m.h) : gTg K t v σ m.h Q := by
  cases t with
  | one i =>
    simp at h
    subst h
    exact k _ (q.set i (.inl r)) fun z => wipe_set (z i (by simp [tgSl]))
  | many l =>
    cases d with
    | tup ds =>
      cases r with
      | tup r1 r2 =>
        obtain ⟨h1, h2⟩ := setL_rep (by simpa using h) r2 q
        exact ⟨_, _, rfl, sqT_mono rm.sub r1, h2, gNs_of h2 (k _ h1 fun z => wipe_setV fun i hi => z i hi)⟩
    | _ => simp at h
  | nest l =>
    cases d with
    | tup ds =>
      cases r with
      | tup r1 r2 =>
        obtain ⟨h1, h2⟩ := gNn_of (Q := Q) rm (by simpa using h) r2 q k
        exact ⟨_, _, rfl, sqT_mono rm.sub r1, h2, h1⟩
    | _ => simp at h
@[simp] def sAsg (t : Tg) (f : EF) : SF := fun sg st => (f sg st).flw sg fun d st1 => match setT t d sg with
  | some sg1 => .nx sg1 st1
  | none => .bad
theorem ss_asg {tg : Expr} {t : Tg} (hg : PG X tg (gTg X.K t)) (he : SE X W e f) (hs : swapsWithSole [tg] e pos.line X.env = pure false := by rfl) (hw : swappedStores [tg] e X.env = pure none := by rfl) (h1 : (assignEach [tg] X.env).map (·.2) = [assign tg X.env] := by rfl) : SS X W (.Assign [tg] e pos) (sAsg t f) :=
  ps_weak (ps_asg he hg hs hw h1) fun D σ H ⟨m, sg, st, e, rm, rs, hp⟩ => ⟨m, sg, st, e, rm, rs, flwc hp rs fun m1 y v st1 e1 r1 q1 hp1 => by
    split at hp1
    · rename_i sg1 h
      exact tg_of (ws := []) r1 h q1 (rs.mono e1) fun σ' s' _ => hp1 m1 σ' (Ext.refl _) r1 s'
    · exact False.elim hp1⟩
/-- a, b = x, y -/
@[simp] def sPar (i j : Nat) (g : AF) : SF := fun sg st => (g sg st).flw sg fun l st1 => match l with
  | [d, d'] => .nx ((sg.set i (some d)).set j (some d')) st1
  | _ => .bad
theorem ss_par {i j : Nat} {x y : Str} {px py pt : Pos} {kt k2 pt2} (hc : X.calm = true) (hN : X.N.Nodup) (hi : X.N[i]? = some x) (hj : X.N[j]? = some y) (hij : i ≠ j)
    (hx : X.env.scope.names.lookup x = some .local) (hy : X.env.scope.names.lookup y = some .local) (ha : SA X W [a, b] g)
    (hw : swappedStores [.Tuple [.Name x px, .Name y py] kt pt] (.Tuple [a, b] k2 pt2) X.env = pure (some [x, y]))
    (hs : swapsWithSole [.Tuple [.Name x px, .Name y py] kt pt] (.Tuple [a, b] k2 pt2) pos.line X.env = pure false := by rfl) : SS X W (.Assign [.Tuple [.Name x px, .Name y py] kt pt] (.Tuple [a, b] k2 pt2) pos) (sPar i j g) :=
  ps_weak (ps_par hc hN hi hj hij hx hy ha hw hs) fun D σ H ⟨m, sg, st, e, rm, rs, hp⟩ => ⟨m, sg, st, e, rm, rs, flwc hp rs fun m1 l vs st1 e1 r1 q1 hp1 => by
    split at hp1
    · obtain ⟨v, w, rfl, h1, h2⟩ := reps2 (X := X) q1
      exact ⟨v, w, rfl, hp1 m1 _ (Ext.refl _) r1 (((rs.mono e1).set i (.inl h1)).set j (.inl h2))⟩
    · exact False.elim hp1⟩
/-- x += e -/
@[simp] def sAug (i : Nat) (sem : D → D → Sto → Res D) (f : EF) : SF := fun sg st => match sg[i]? with
  | some (some .exn) => .bad
  | some (some x) => ((f sg st).bind fun y st1 => sem x y st1).flw sg fun d st1 => .nx (sg.set i (some d)) st1
  | _ => .bad
theorem ss_aug {i : Nat} {op : Operator} {r : TIp} {sem : D → D → Sto → Res D} (hN : X.N.Nodup) (hi : X.N[i]? = some x) (hx : Loc X.env.scope x) (ho : PIp X op r) (hs : Fits2 X W r sem) (he : SE X W e f) (hf : X.fn x = true ∨ X.env.scope.names.lookup x = some .local := by first | exact .inl rfl | exact .inr rfl | assumption) :
    SS X W (.AugAssign (.Name x pos') op e pos) (sAug i sem f) :=
  ps_weak (ps_aug hN hi hx he ho hf) fun D σ H ⟨m, sg, st, e, rm, rs, hp⟩ => by
    unfold sAug at hp
    split at hp
    · exact False.elim hp
    · rename_i d hd q
      obtain ⟨v, h1, h2⟩ := rs.2 i d q
      have h2 := h2.elim id fun z => (hd z.1).elim
      refine ⟨v, h1, m, sg, st, e, rm, rs, ?_⟩
      have hp' := flwc (R := RD X.K X.mg) (Q := fun z H3 => D.nx (σ.set i (some z)) H3) hp rs fun m1 y v st1 e1 r1 q1 hp1 => hp1 m1 _ (Ext.refl _) r1 ((rs.mono e1).set i (.inl q1))
      exact hp'.bindc fun m1 y w st1 e1 r1 q1 hp1 => hs m1 st1 σ d y v w _ r1 (h2.mono e1) q1 hp1
    · exact False.elim hp
def dAddI : D → D → Sto → Res D
  | .int i, .int j, st => .ok (.int (i + j)) st
  | _, _, _ => .bad
theorem fits_ipadd : Fits2 X W (ipI fun i j => i + j) dAddI := by
  intro m st σ x y v w Q rm ra rb hp
  unfold dAddI at hp
  split at hp
  · cases ra; cases rb; exact ⟨_, _, rfl, rfl, hp.okc rm (.int _)⟩
  · exact False.elim hp
theorem fits_ipsub : Fits2 X W (ipI fun i j => i - j) dSub := by
  intro m st σ x y v w Q rm ra rb hp
  unfold dSub at hp
  split at hp
  · cases ra; cases rb; exact ⟨_, _, rfl, rfl, hp.okc rm (.int _)⟩
  · exact False.elim hp
/-- o[i] = e -/
def stSet (x : D) (i : Int) (d : D) (st : Sto) : Option Sto := match x with
  | .loc n => match st[n]? with
    | some (.lst l) => match ixN l.length i with
      | some j => some (st.set n (.lst (l.set j d)))
      | none => none
    | _ => none
  | _ => none
def rSub (fo fi f : EF) : Sg → Sto → Res Unit := fun sg st => (f sg st).bind fun d st1 => (fo sg st1).bind fun x st2 => (fi sg st2).bind fun i st3 => match i with
  | .int i => match stSet x i d st3 with
    | some st4 => .ok () st4
    | none => .bad
  | _ => .bad
@[simp] def sSub (fo fi f : EF) : SF := fun sg st => (rSub fo fi f sg st).flw sg fun _ st4 => .nx sg st4
theorem ss_sub {fi : EF} {ps : Pos} (ho : SE X W o fo) (hi : SE X W b fi) (he : SE X W e f) (hs : swapsWithSole [.Subscript o b ps] e pos.line X.env = pure false := by rfl) (hw : swappedStores [.Subscript o b ps] e X.env = pure none := by rfl) (h1 : (assignEach [.Subscript o b ps] X.env).map (·.2) = [assign (.Subscript o b ps) X.env] := by rfl)
    (ha : ∀ v, assign (.Subscript o b ps) X.env v = (do
      let ov ← holding [v] (eval o X.env)
      let iv ← holding [v, ov] (eval b X.env)
      standAt ps
      holding [v, ov, iv] (setItem ov iv v)
      release [v, ov, iv] []) := by intro _; rfl) : SS X W (.Assign [.Subscript o b ps] e pos) (sSub fo fi f) :=
  ps_weak (ps_asg he (pg_sub ho hi set_list ha) hs hw h1) fun D σ H ⟨m, sg, st, e, rm, rs, hp⟩ => ⟨m, sg, st, e, rm, rs, by
    have hp' := flwc (r := rSub fo fi f sg st) (R := fun _ _ _ => True) (β := Unit) (Q := fun _ H3 => D.nx σ H3) hp rs fun m1 y v st1 e1 r1 q1 hp1 => hp1 m1 _ (Ext.refl _) r1 (rs.mono e1)
    unfold rSub at hp'
    refine hp'.bindc fun m1 d v st1 e1 r1 q1 hp1 => ⟨m1, sg, st1, rfl, r1, rs.mono e1, hp1.bindc fun m2 x w st2 e2 r2 q2 hp2 => ⟨m2, sg, st2, rfl, r2, (rs.mono e1).mono e2, hp2.bindc fun m3 i u st3 e3 r3 q3 hp3 => ?_⟩⟩
    split at hp3
    · rename_i i
      split at hp3
      · rename_i st4 hst
        cases q3
        unfold stSet at hst
        split at hst
        · split at hst
          · rename_i l hl
            split at hst
            · rename_i j hj
              cases hst
              have q2' := q2.mono e3
              cases q2' with
              | loc hr =>
                obtain ⟨vs, k1, k2⟩ := r3.obj _ _ _ hr hl
                refine ⟨_, vs, i, j, rfl, rfl, k1, by rw [← k2.length]; exact hj, ?_⟩
                exact hp3 (m3.put _ (.lst (vs.set j v))) () (Ext.put (List.mem_of_getElem? hr)) (r3.put hr ⟨_, upd_same, k2.set ((q1.mono e2).mono e3) j⟩) trivial
            · cases hst
          · cases hst
        · cases hst
      · exact False.elim hp3
    · exact False.elim hp3⟩
end
end Sh
/-! Part F: loops over things, comprehensions, objects made, errors, defs. -/
namespace Sh
open PySem L2
section
variable {X : Cx} {W : We} {e o a b c : Expr} {es : List Expr} {f fo fa fb : EF} {g : AF} {pos p apos pos' p2 : Pos} {x : Str} {gs hs : SF} {st : Stmt} {rest body : List Stmt}
/-! what is walked -/
def ItOk (K : PySem.W.Frag) (mg : Str → Option Value) (m : Hw) (J : It) (l : List D) (ck : Sto → Prop) : Prop := ∀ m1 st1, Ext m m1 → Rel K mg m1 st1 → ck st1 → ∀ i : Nat, (l.length ≤ i → J.stop i m1.h) ∧ ∀ d, l[i]? = some d → J.go i m1.h ∧ ∀ x H', J.yld i m1.h x H' → ∃ m2, m2.h = H' ∧ Ext m1 m2 ∧ Rel K mg m2 st1 ∧ Rep K mg m2.r m2.g d x
structure Wk where
  l : List D
  ck : Sto → Prop
abbrev IF := Sg → Sto → Res Wk
def IOf (K : PySem.W.Frag) (mg : Str → Option Value) (W : We) (f : IF) : TI := fun σ H R => ∃ m sg st, m.h = H ∧ Rel K mg m st ∧ SgRep K mg W.e m sg σ ∧ Post K mg W.w m σ (fun m1 w J => ItOk K mg m1 J w.l w.ck) R (f sg st)
def SI (X : Cx) (W : We) (tg iter : Expr) (f : IF) : Prop := PI X tg iter (IOf X.K X.mg W f)
theorem pi_weak {X : Cx} {tg e : Expr} {t t' : TI} (h : PI X tg e t) (i : ∀ σ H Q, t' σ H Q → t σ H Q) : PI X tg e t' := ⟨fun pins s σ H Q I q => h.run pins s σ H Q I (i σ H Q q)⟩
variable {tg iter : Expr}
@[simp] def iSeq (f : EF) : IF := fun sg st => (f sg st).bind fun x st1 => match x with
  | .lst l => .ok ⟨l, fun _ => True⟩ st1
  | .scr l => .ok ⟨l.map .int, fun _ => True⟩ st1
  | .loc n => match st1[n]? with
    | some (.lst l) => .ok ⟨l, fun st => st[n]? = some (.lst l)⟩ st1
    | _ => .bad
  | _ => .bad
@[simp] def iTupD (f : EF) : IF := fun sg st => (f sg st).bind fun x st1 => match x with
  | .tup l => .ok ⟨l, fun _ => True⟩ st1
  | _ => .bad
theorem itl_ok {K : PySem.W.Frag} {mg : Str → Option Value} {m : Hw} {a : Addr} {l : List D} {ck : Sto → Prop} (h : ∀ m1 st1, Ext m m1 → Rel K mg m1 st1 → ck st1 → ∃ vs, SqL K m1.h a vs ∧ Reps K mg m1.r m1.g l vs) : ItOk K mg m (Itl K a) l ck := by
  intro m1 st1 e1 r1 c1 i
  obtain ⟨vs, h1, h2⟩ := h m1 st1 e1 r1 c1
  refine ⟨fun hl => ⟨vs, h1, by rw [← h2.length]; exact hl⟩, fun d hd => ?_⟩
  obtain ⟨v, k1, k2⟩ := h2.get hd
  refine ⟨⟨vs, v, h1, k1⟩, fun x H' ⟨e, y⟩ => ⟨m1, e.symm, Ext.refl _, r1, ?_⟩⟩
  have := y vs h1
  rw [k1] at this
  cases this
  exact k2
theorem itt_ok {K : PySem.W.Frag} {mg : Str → Option Value} {m : Hw} {a : Addr} {l : List D} {ck : Sto → Prop} (h : ∀ m1 st1, Ext m m1 → Rel K mg m1 st1 → ck st1 → ∃ vs, SqT K m1.h a vs ∧ Reps K mg m1.r m1.g l vs) : ItOk K mg m (Itt K a) l ck := by
  intro m1 st1 e1 r1 c1 i
  obtain ⟨vs, h1, h2⟩ := h m1 st1 e1 r1 c1
  refine ⟨fun hl => ⟨vs, h1, by rw [← h2.length]; exact hl⟩, fun d hd => ?_⟩
  obtain ⟨v, k1, k2⟩ := h2.get hd
  refine ⟨⟨vs, v, h1, k1⟩, fun x H' ⟨e, y⟩ => ⟨m1, e.symm, Ext.refl _, r1, ?_⟩⟩
  have := y vs h1
  rw [k1] at this
  cases this
  exact k2
theorem si_seq (he : SE X W iter f) : SI X W tg iter (iSeq f) :=
  pi_weak (pi_list he) fun σ H R ⟨m, sg, st, e, rm, rs, hp⟩ => ⟨m, sg, st, e, rm, rs, hp.bindc fun m1 x v st1 e1 r1 q1 hp1 => by
    split at hp1
    · cases q1 with
      | lst h1 h2 => exact ⟨_, rfl, ⟨_, .of (r1.sub _ _ h1)⟩, hp1.okc r1 (itl_ok fun m2 st2 e2 r2 _ => ⟨_, .of (r2.sub _ _ (e2.g _ _ h1)), h2.mono e2⟩)⟩
    · cases q1 with
      | scr h1 => exact ⟨_, rfl, ⟨_, sqL_mono r1.sub h1⟩, hp1.okc r1 (itl_ok fun m2 st2 e2 r2 _ => ⟨_, sqL_mono r2.sub (sqL_mono e2.g h1), reps_ints (X := X) _⟩)⟩
    · cases q1 with
      | loc h1 =>
        split at hp1
        · rename_i l hl
          obtain ⟨vs, k1, k2⟩ := r1.obj _ _ _ h1 hl
          refine ⟨_, rfl, ⟨_, .of k1⟩, hp1.okc r1 (itl_ok fun m2 st2 e2 r2 hc => ?_)⟩
          obtain ⟨ws, k3, k4⟩ := r2.obj _ _ _ (e2.at_ h1) hc
          exact ⟨ws, .of k3, k4⟩
        · exact False.elim hp1
    · exact False.elim hp1⟩
theorem si_tup (he : SE X W iter f) : SI X W tg iter (iTupD f) :=
  pi_weak (pi_tup he) fun σ H R ⟨m, sg, st, e, rm, rs, hp⟩ => ⟨m, sg, st, e, rm, rs, hp.bindc fun m1 x v st1 e1 r1 q1 hp1 => by
    split at hp1
    · cases q1 with
      | tup h1 h2 => exact ⟨_, rfl, ⟨_, sqT_mono r1.sub h1⟩, hp1.okc r1 (itt_ok fun m2 st2 e2 r2 _ => ⟨_, sqT_mono r2.sub (sqT_mono e2.g h1), h2.mono e2⟩)⟩
    · exact False.elim hp1⟩
def rngD (lo : Int) (n : Nat) : List D := (List.range n).map fun (i : Nat) => .int (lo + (i : Int))
theorem itr_ok {K : PySem.W.Frag} {mg : Str → Option Value} {m : Hw} {lo : Int} {n : Nat} {ck : Sto → Prop} : ItOk K mg m (Itr lo n) (rngD lo n) ck := by
  intro m1 st1 e1 r1 c1 i
  refine ⟨fun hl => by
    have hl' : n ≤ i := by simpa [rngD] using hl
    exact hl', fun d hd => ?_⟩
  unfold rngD at hd
  rw [List.getElem?_map] at hd
  by_cases hi : i < n
  · rw [List.getElem?_range hi] at hd
    cases hd
    exact ⟨hi, fun x H' ⟨e, y⟩ => ⟨m1, e.symm, Ext.refl _, r1, by rw [y]; exact .int _⟩⟩
  · rw [List.getElem?_eq_none (by simpa using hi)] at hd
    cases hd
@[simp] def iRange1 (g : AF) : IF := fun sg st => (g sg st).bind fun l st1 => match l with
  | [.int j] => if -(2 ^ 62) ≤ j ∧ j < 2 ^ 62 then .ok ⟨rngD 0 j.toNat, fun _ => True⟩ st1 else .bad
  | _ => .bad
@[simp] def iRange2 (g : AF) : IF := fun sg st => (g sg st).bind fun l st1 => match l with
  | [.int i, .int j] => if -(2 ^ 62) ≤ i ∧ i < 2 ^ 62 ∧ -(2 ^ 62) ≤ j ∧ j < 2 ^ 62 then .ok ⟨rngD i (j - i).toNat, fun _ => True⟩ st1 else .bad
  | _ => .bad
theorem si_range1 (hg : Gl X "range") (hm : X.mg "range" = none) (ha : SA X W [a] g) (hs : starEach [a] X.env = [(false, eval a X.env)] := by rfl) : SI X W tg (.Call (.Name "range" p) [a] [] pos) (iRange1 g) :=
  pi_weak (pi_range1 hg hm ha hs) fun σ H R ⟨m, sg, st, e, rm, rs, hp⟩ => ⟨m, sg, st, e, rm, rs, hp.bindc fun m1 l vs st1 e1 r1 q1 hp1 => by
    split at hp1
    · obtain ⟨v, rfl, hv⟩ := reps1 (X := X) q1
      cases hv
      split at hp1
      · rename_i h
        exact ⟨_, rfl, h.1, h.2, hp1.okc r1 itr_ok⟩
      · exact False.elim hp1
    · exact False.elim hp1⟩
theorem si_range2 (hg : Gl X "range") (hm : X.mg "range" = none) (ha : SA X W [a, b] g) (hs : starEach [a, b] X.env = [(false, eval a X.env), (false, eval b X.env)] := by rfl) (hs2 : starEach [b] X.env = [(false, eval b X.env)] := by rfl) : SI X W tg (.Call (.Name "range" p) [a, b] [] pos) (iRange2 g) :=
  pi_weak (pi_range2 hg hm ha hs hs2) fun σ H R ⟨m, sg, st, e, rm, rs, hp⟩ => ⟨m, sg, st, e, rm, rs, hp.bindc fun m1 l vs st1 e1 r1 q1 hp1 => by
    split at hp1
    · obtain ⟨v, w, rfl, hv, hw⟩ := reps2 (X := X) q1
      cases hv; cases hw
      split at hp1
      · rename_i h
        exact ⟨_, _, rfl, h, hp1.okc r1 itr_ok⟩
      · exact False.elim hp1
    · exact False.elim hp1⟩
/-! for -/
open Classical in
noncomputable def forF (ck : Sto → Prop) (t : Tg) (g : SF) : List D → SF
  | [], sg, st => if ck st then .nx sg st else .bad
  | d :: r, sg, st => if ck st then (match setT t d sg with
    | some sg1 => (g sg1 st).loop (forF ck t g r)
    | none => .bad) else .bad
@[simp] noncomputable def sFor (f : IF) (t : Tg) (g : SF) : SF := fun sg st => (f sg st).flw sg fun w st1 => forF w.ck t g w.l sg st1
theorem ss_for {t : Tg} {fi : IF} (hpo : PassesOwn (model X.prog X.w) X.A X.env X.xe) (hc : X.calm = true) (hi : SI X W tg iter fi) (hg : PG X tg (gTg X.K t)) (hb : SSs X W body gs) (hs : ∀ x, foldedSetIterable iter X.env x = pure x := by intro _; rfl) : SS X W (.For tg iter body [] pos) (sFor fi t gs) :=
  ps_weak (ps_for hpo hc hi hg hb hs) fun D σ H ⟨m, sg, st, e, rm, rs, hp⟩ => ⟨m, sg, st, e, rm, rs, flwc hp rs fun m0 w J st0 e0 r0 it hp0 => by
    refine ⟨fun i k σ H => k = w.l.length - i ∧ i ≤ w.l.length ∧ ∃ m1 sg st, m1.h = H ∧ Ext m0 m1 ∧ Rel X.K X.mg m1 st ∧ SgRep X.K X.mg W.e m1 sg σ ∧ PostS X.K X.mg W m1 D (forF w.ck t gs (w.l.drop i) sg st), ⟨w.l.length, by simp, Nat.zero_le _, m0, sg, st0, rfl, Ext.refl _, r0, rs.mono e0, by simpa using hp0⟩, ?_⟩
    rintro i k σ1 H1 ⟨rfl, hi, m1, sg1, st1, rfl, e1, r1, s1, p1⟩
    by_cases hlt : i < w.l.length
    · rw [List.drop_eq_getElem_cons hlt] at p1
      unfold forF at p1
      split at p1
      · rename_i hck
        obtain ⟨_, hgo⟩ := it m1 st1 e1 r1 hck i
        obtain ⟨k1, k2⟩ := hgo w.l[i] (List.getElem?_eq_getElem hlt)
        refine .inr ⟨k1, fun σ H => ∃ m1 sg st, m1.h = H ∧ Ext m0 m1 ∧ Rel X.K X.mg m1 st ∧ SgRep X.K X.mg W.e m1 sg σ ∧ PostS X.K X.mg W m1 D (forF w.ck t gs (w.l.drop (i + 1)) sg st), fun σ' H' z => ⟨w.l.length - (i + 1), by omega, rfl, hlt, z⟩, fun y H' hy => ?_⟩
        obtain ⟨m2, rfl, e2, r2, q2⟩ := k2 y H' hy
        split at p1
        · rename_i sg2 hsg
          exact tg_of (ws := []) r2 hsg q2 (s1.mono e2) fun σ' s' _ => ⟨m2, sg2, st1, rfl, r2, s', loopc (PostS.mono p1 e2) fun m3 σ3 sg3 st3 e3 r3 s3 p3 => ⟨m3, sg3, st3, rfl, (e1.trans e2).trans e3, r3, s3, p3⟩⟩
        · exact False.elim p1
      · exact False.elim p1
    · have : i = w.l.length := by omega
      subst this
      rw [List.drop_length] at p1
      unfold forF at p1
      split at p1
      · rename_i hck
        exact .inl ⟨(it m1 st1 e1 r1 hck _).1 (Nat.le_refl _), p1 m1 σ1 (Ext.refl _) r1 s1⟩
      · exact False.elim p1⟩
/-! comprehensions -/
@[simp] def Res.noex {α : Type} : Res α → Res α
  | .exc _ _ _ => .bad
  | r => r
@[simp] def wipeD (sg : Sg) : List Nat → Sg
  | [] => sg
  | v :: vs => (wipeD sg vs).set v none
theorem wipe_rep {K : PySem.W.Frag} {mg : Str → Option Value} {y : Option Ex} {m : Hw} {sg : Sg} {σ : St} (h : SgRep K mg y m sg σ) : ∀ vs : List Nat, SgRep K mg y m (wipeD sg vs) (wipe σ vs)
  | [] => h
  | v :: vs => (wipe_rep h vs).unset v
open Classical in
noncomputable def lcF (ck : Sto → Prop) (t : Tg) (c : TF) (f : EF) (sg : Sg) : List D → Sto → Res (List D)
  | [], st => if ck st then .ok [] st else .bad
  | d :: r, st => if ck st then (match setT t d sg with
    | some sg1 => ((c sg1 st).noex.bind fun b st1 => if b = true then ((f sg1 st1).noex.bind fun y st2 => (lcF ck t c f sg r st2).bind fun ys st3 => .ok (y :: ys) st3) else lcF ck t c f sg r st1)
    | none => .bad) else .bad
noncomputable def lcR (ws : List Nat) (fi : IF) (t : Tg) (c : TF) (f : EF) : Sg → Sto → Res (List D) := fun sg st => (fi sg st).bind fun w st1 => if w.l.length ≤ 16777216 then (lcF w.ck t c f (wipeD sg ws) w.l st1).noex else .bad
@[simp] noncomputable def fLc (ws : List Nat) (fi : IF) (t : Tg) (c : TF) (f : EF) : EF := fun sg st => (lcR ws fi t c f sg st).bind fun l st1 => .ok (.lst l) st1
@[simp] noncomputable def fLcN (ws : List Nat) (fi : IF) (t : Tg) (c : TF) (f : EF) : EF := fun sg st => (lcR ws fi t c f sg st).bind fun l st1 => .ok (.loc st1.length) (st1 ++ [.lst l])
@[simp] def tYesD : TF := fun _ st => .ok true st
def WF (W : We) : We := ⟨fun _ _ _ _ => False, W.e⟩
theorem Post.noex {α β : Type} {K : PySem.W.Frag} {mg : Str → Option Value} {w : WX} {m : Hw} {σ σ' : St} {R : Hw → α → β → Prop} {Q : β → Hp → Prop} {r : Res α} (h : Post K mg w m σ R Q r.noex) : Post K mg (fun _ _ _ _ => False) m σ' R Q r := by
  cases r with
  | ok a st => exact h
  | exc c o st => exact False.elim h
  | bad => exact h
def STs (X : Cx) (W : We) (ifs : List Expr) (f : TF) : Prop := PTs X ifs (TOf X.K X.mg W RB f)
theorem pts_weak {X : Cx} {e : List Expr} {t t' : TT} (h : PTs X e t) (i : ∀ σ H Q, t' σ H Q → t σ H Q) : PTs X e t' := ⟨fun pins s σ H Q I q => h.run pins s σ H Q I (i σ H Q q)⟩
theorem sts_nil : STs X W [] tYesD := pts_weak pts_nil fun σ H Q ⟨m, sg, st, e, rm, rs, hp⟩ => by
  subst e; exact hp.okc rm rfl
theorem sts_one {t : TF} (h : SB X W c t) : STs X W [c] t := pts_one h
theorem Rel.side {K : PySem.W.Frag} {mg : Str → Option Value} {m : Hw} {st : Sto} (R : Rel K mg m st) {p : Addr} {o : HO} (h1 : p ∉ m.r) (h2 : m.g p = none) : Rel K mg (m.put p o) st := by
  refine ⟨fun a u e => ?_, R.len, R.nd, R.off, fun n a so e1 e2 => ?_⟩
  · show upd m.h p o a = some u
    rw [upd_ne (ne_of_none e h2)]; exact R.sub a u e
  · have : a ≠ p := fun z => h1 (z ▸ List.mem_of_getElem? e1)
    refine (R.obj n a so e1 e2).mono' (fun _ _ z => z) (fun _ _ z => z) fun u q => ?_
    show upd m.h p o a = some u
    rw [upd_ne this]; exact q
theorem Ext.side {m0 m : Hw} (e : Ext m0 m) {p : Addr} {o : HO} (h : m0.h p = none) : Ext m0 (m.put p o) := by
  refine ⟨e.pre, e.g, fun a u q n => ?_⟩
  obtain ⟨h1, h2, h3⟩ := e.fr a u q n
  refine ⟨?_, h2, h3⟩
  show upd m.h p o a = some u
  rw [upd_ne (ne_of_none q h)]; exact h1
theorem wipe_wipe {σ : St} (ws : List Nat) : ∀ vs : List Nat, (∀ j ∈ vs, j ∈ ws) → wipe (wipe σ vs) ws = wipe σ ws
  | [], _ => rfl
  | v :: vs, h => by
    show wipe ((wipe σ vs).set v none) ws = _
    rw [wipe_set (h v List.mem_cons_self)]
    exact wipe_wipe ws vs fun j hj => h j (List.mem_cons_of_mem _ hj)
/-- the loop of a comprehension: Dl is the new list -/
theorem lc_ok {t : Tg} {ct : TF} {fe : EF} {ws : List Nat} {σ : St} {sg : Sg} {m0 : Hw} {J : It} {w : Wk} {st0 : Sto} {Qd : V → Hp → Prop} (hw : ∀ i ∈ tgSl t, i ∈ ws) (hlen : w.l.length ≤ 16777216) (it : ItOk X.K X.mg m0 J w.l w.ck) (r0 : Rel X.K X.mg m0 st0) (rs : SgRep X.K X.mg W.e m0 sg σ)
    (R : List D → Sto → Prop) (Dl : Addr) (hD : m0.h Dl = none) (start : ∃ l st, lcF w.ck t ct fe (wipeD sg ws) w.l st0 = .ok l st ∧ R l st)
    (fin : ∀ m1 l vs st, Ext m0 m1 → m1.h Dl = some (.lst vs) → Dl ∉ m1.r → m1.g Dl = none → Rel X.K X.mg m1 st → Reps X.K X.mg m1.r m1.g l vs → R l st → Qd (.ref Dl) m1.h) :
    ∃ Wd : Nat → Nat → Hp → Prop, (∃ k, Wd 0 k (upd m0.h Dl (.lst []))) ∧ ∀ i k H, Wd i k H →
      (J.stop i H ∧ Qd (.ref Dl) H) ∨ (J.go i H ∧ ∃ Nx : Hp → Prop, (∀ H', Nx H' → ∃ k', k' < k ∧ Wd (i + 1) k' H') ∧ ∀ x H', J.yld i H x H' → gTg X.K t x (wipe σ ws) H' fun σ2 H2 => wipe σ2 ws = wipe σ ws ∧ (TOf X.K X.mg (WF W) RB ct) σ2 H2 fun b H3 =>
        if b = true then (TOf X.K X.mg (WF W) (RD X.K X.mg) fe) σ2 H3 fun y H4 => ∃ acc, H4 Dl = some (.lst acc) ∧ acc.length < sizeLine ∧ Nx (upd H4 Dl (.lst (acc ++ [y]))) else Nx H3) := by
  refine ⟨fun i k H => k = w.l.length - i ∧ i ≤ w.l.length ∧ ∃ m1 st1 acc vs, m1.h = H ∧ Ext m0 m1 ∧ m1.h Dl = some (.lst vs) ∧ Dl ∉ m1.r ∧ m1.g Dl = none ∧ Rel X.K X.mg m1 st1 ∧ Reps X.K X.mg m1.r m1.g acc vs ∧ acc.length ≤ i ∧
    ∃ l st, lcF w.ck t ct fe (wipeD sg ws) (w.l.drop i) st1 = .ok l st ∧ R (acc ++ l) st, ?_, ?_⟩
  · refine ⟨w.l.length, by simp, Nat.zero_le _, m0.put Dl (.lst []), st0, [], [], rfl, (Ext.refl m0).side hD, upd_same, r0.fresh hD, r0.gnone hD, r0.side (r0.fresh hD) (r0.gnone hD), .nil, Nat.zero_le _, ?_⟩
    simpa using start
  rintro i k H ⟨rfl, hi, m1, st1, acc, vs, rfl, e1, d1, d2, d3, r1, q1, ha, l, st, hl, hR⟩
  have s1 : SgRep X.K X.mg W.e m1 (wipeD sg ws) (wipe σ ws) := wipe_rep (rs.mono e1) ws
  by_cases hlt : i < w.l.length
  · rw [List.drop_eq_getElem_cons hlt] at hl
    unfold lcF at hl
    split at hl
    · rename_i hck
      obtain ⟨_, hgo⟩ := it m1 st1 e1 r1 hck i
      obtain ⟨k1, k2⟩ := hgo w.l[i] (List.getElem?_eq_getElem hlt)
      refine .inr ⟨k1, fun H => ∃ m1 st1 acc vs, m1.h = H ∧ Ext m0 m1 ∧ m1.h Dl = some (.lst vs) ∧ Dl ∉ m1.r ∧ m1.g Dl = none ∧ Rel X.K X.mg m1 st1 ∧ Reps X.K X.mg m1.r m1.g acc vs ∧ acc.length ≤ i + 1 ∧
        ∃ l st, lcF w.ck t ct fe (wipeD sg ws) (w.l.drop (i + 1)) st1 = .ok l st ∧ R (acc ++ l) st, fun H' z => ⟨w.l.length - (i + 1), by omega, rfl, hlt, z⟩, fun y H' hy => ?_⟩
      obtain ⟨m2, rfl, e2, r2, q2⟩ := k2 y H' hy
      split at hl
      · rename_i sg2 hsg
        refine tg_of (ws := ws) r2 hsg q2 (s1.mono e2) fun σ' s' hws => ⟨?_, ?_⟩
        · rw [hws hw]
          exact wipe_wipe ws ws fun _ h => h
        · have f2 := e2.fr Dl _ d1 d2
          cases hc : ct sg2 st1 with
          | exc c o s => rw [hc] at hl; simp at hl
          | bad => rw [hc] at hl; simp at hl
          | ok b st2 =>
            rw [hc] at hl
            simp only [Res.noex, Res.bind] at hl
            refine ⟨m2, sg2, st1, rfl, r2, s', ?_⟩
            rw [hc]
            intro m3 b' e3 r3 hb
            cases hb
            have f3 := e3.fr Dl _ f2.1 f2.2.1
            cases b with
            | false =>
              rw [if_neg Bool.false_ne_true] at hl
              exact iteF ⟨m3, st2, acc, vs, rfl, (e1.trans e2).trans e3, f3.1, f3.2.1, f3.2.2 (f2.2.2 d3), r3, (q1.mono e2).mono e3, by omega, l, st, hl, hR⟩
            | true =>
              rw [if_pos rfl] at hl
              refine iteT ?_
              cases hf : fe sg2 st2 with
              | exc c o s => rw [hf] at hl; simp at hl
              | bad => rw [hf] at hl; simp at hl
              | ok d st3 =>
                rw [hf] at hl
                simp only [Res.noex, Res.bind] at hl
                refine ⟨m3, sg2, st2, rfl, r3, s'.mono e3, ?_⟩
                rw [hf]
                intro m4 v e4 r4 q4
                have f4 := e4.fr Dl _ f3.1 f3.2.1
                have q1' := ((q1.mono e2).mono e3).mono e4
                have hsz : vs.length < sizeLine := by
                  rw [← q1.length, sizeLine_eq]
                  omega
                refine ⟨vs, f4.1, hsz, m4.put Dl (.lst (vs ++ [v])), st3, acc ++ [d], vs ++ [v], rfl, (((e1.trans e2).trans e3).trans e4).side hD, upd_same, f4.2.1, f4.2.2 (f3.2.2 (f2.2.2 d3)), r4.side f4.2.1 (f4.2.2 (f3.2.2 (f2.2.2 d3))), q1'.append (.one q4), by simp; omega, ?_⟩
                cases hr : lcF w.ck t ct fe (wipeD sg ws) (w.l.drop (i + 1)) st3 with
                | exc c o s => rw [hr] at hl; simp at hl
                | bad => rw [hr] at hl; simp at hl
                | ok ys st4 =>
                  rw [hr] at hl
                  simp only [Res.ok.injEq] at hl
                  obtain ⟨rfl, rfl⟩ := hl
                  exact ⟨ys, st4, rfl, by simpa using hR⟩
      · cases hl
    · cases hl
  · have : i = w.l.length := by omega
    subst this
    rw [List.drop_length] at hl
    unfold lcF at hl
    split at hl
    · rename_i hck
      cases hl
      rw [List.append_nil] at hR
      exact .inl ⟨(it m1 st1 e1 r1 hck _).1 (Nat.le_refl _), fin m1 acc vs st1 e1 d1 d2 d3 r1 q1 hR⟩
    · cases hl
theorem Rel.frz {K : PySem.W.Frag} {mg : Str → Option Value} {m : Hw} {st : Sto} (R : Rel K mg m st) {p : Addr} {o : HO} (h : m.h p = some o) (h1 : p ∉ m.r) : Rel K mg ⟨m.r, upd m.g p o, m.h⟩ st := by
  refine ⟨fun a u e => ?_, R.len, R.nd, fun a z => ?_, fun n a so e1 e2 => ?_⟩
  · have e : upd m.g p o a = some u := e
    by_cases q : a = p
    · subst q; rw [upd_same] at e; cases e; exact h
    · rw [upd_ne q] at e; exact R.sub a u e
  · show upd m.g p o a = none
    have : a ≠ p := fun q => h1 (q ▸ z)
    rw [upd_ne this]; exact R.off a z
  · refine (R.obj n a so e1 e2).mono' (fun _ _ z => z) (fun b u q => ?_) fun u q => q
    show upd m.g p o b = some u
    by_cases e : b = p
    · subst e
      have := R.sub _ _ q
      rw [h] at this; cases this
      exact upd_same
    · rw [upd_ne e]; exact q
theorem Ext.frz {m0 m : Hw} (e : Ext m0 m) {p : Addr} {o : HO} (h : m0.h p = none) (h1 : m.h p = some o) (hs : ∀ a u, m.g a = some u → m.h a = some u) : Ext m0 ⟨m.r, upd m.g p o, m.h⟩ := by
  refine ⟨e.pre, fun a u q => ?_, fun a u q n => ?_⟩
  · show upd m.g p o a = some u
    by_cases z : a = p
    · subst z
      have := hs _ _ (e.g _ _ q)
      rw [h1] at this; cases this
      exact upd_same
    · rw [upd_ne z]; exact e.g _ _ q
  · obtain ⟨k1, k2, k3⟩ := e.fr a u q n
    refine ⟨k1, k2, fun z => ?_⟩
    show upd m.g p o a = none
    rw [upd_ne (ne_of_none q h)]; exact k3 z
theorem bind_assoc' {α β γ : Type} {r : Res α} {f : α → Sto → Res β} {k : β → Sto → Res γ} : (r.bind f).bind k = r.bind fun a st => (f a st).bind k := by
  cases r <;> rfl
variable {t : Tg} {ct : TF} {fe : EF} {fi : IF} {ifs : List Expr} {scope : Scope} {own : List (Str × Nat)} {elt : Expr}
theorem tLc_of {σ : St} {Q : VK} {m : Hw} {sg : Sg} {st : Sto} {ws : List Nat} {k : List D → Sto → Res D} (hw : ∀ i ∈ tgSl t, i ∈ ws) (rm : Rel X.K X.mg m st) (rs : SgRep X.K X.mg W.e m sg σ) (hp : Post X.K X.mg W.w m σ (RD X.K X.mg) Q ((lcR ws fi t ct fe sg st).bind k))
    (fin : ∀ m1 l st1 Dl m2 vs, Ext m m1 → m1.h Dl = none → Ext m1 m2 → m2.h Dl = some (.lst vs) → Dl ∉ m2.r → m2.g Dl = none → Rel X.K X.mg m2 st1 → Reps X.K X.mg m2.r m2.g l vs → Post X.K X.mg W.w m1 σ (RD X.K X.mg) Q (k l st1) → Q (.ref Dl) m2.h) :
    tLc (IOf X.K X.mg W fi) (gTg X.K t) (TOf X.K X.mg (WF W) RB ct) (TOf X.K X.mg (WF W) (RD X.K X.mg) fe) ws σ m.h Q := by
  unfold lcR at hp
  rw [bind_assoc'] at hp
  refine ⟨m, sg, st, rfl, rm, rs, hp.bindc fun m1 w J st1 e1 r1 it hp1 => ?_⟩
  split at hp1
  · rename_i hl
    intro Dl hD
    cases hc : lcF w.ck t ct fe (wipeD sg ws) w.l st1 with
    | bad => rw [hc] at hp1; exact False.elim hp1
    | exc c o s => rw [hc] at hp1; exact False.elim hp1
    | ok l st2 =>
      rw [hc] at hp1
      exact lc_ok hw hl it r1 (rs.mono e1) (fun l' st' => l' = l ∧ st' = st2) Dl hD ⟨l, st2, hc, rfl, rfl⟩ fun m2 l' vs st' e2 h1 h2 h3 r2 q2 hR => by
        obtain ⟨rfl, rfl⟩ := hR
        exact fin m1 l' st' Dl m2 vs e1 hD e2 h1 h2 h3 r2 q2 hp1
  · exact False.elim hp1
theorem lc_val {σ : St} {Q : VK} {m1 m2 : Hw} {l : List D} {st1 : Sto} {Dl : Addr} {vs : List V} (hD : m1.h Dl = none) (e2 : Ext m1 m2) (h1 : m2.h Dl = some (.lst vs)) (h2 : Dl ∉ m2.r) (r2 : Rel X.K X.mg m2 st1) (q2 : Reps X.K X.mg m2.r m2.g l vs) (hp : Post X.K X.mg W.w m1 σ (RD X.K X.mg) Q (.ok (.lst l) st1)) : Q (.ref Dl) m2.h := by
  have e3 := (Ext.refl m2).g
  refine hp ⟨m2.r, upd m2.g Dl (.lst vs), m2.h⟩ (.ref Dl) (e2.frz hD h1 r2.sub) (r2.frz h1 h2) (.lst upd_same (Reps.mono' (fun _ _ z => z) (fun b u q => ?_) _ _ q2))
  by_cases e : b = Dl
  · subst e
    have := r2.sub _ _ q
    rw [h1] at this; cases this
    exact upd_same
  · show upd m2.g Dl (.lst vs) b = some u
    rw [upd_ne e]; exact q
theorem lc_new {σ : St} {Q : VK} {m1 m2 : Hw} {l : List D} {st1 : Sto} {Dl : Addr} {vs : List V} (hD : m1.h Dl = none) (e2 : Ext m1 m2) (h1 : m2.h Dl = some (.lst vs)) (h2 : Dl ∉ m2.r) (h3 : m2.g Dl = none) (r2 : Rel X.K X.mg m2 st1) (q2 : Reps X.K X.mg m2.r m2.g l vs) (hp : Post X.K X.mg W.w m1 σ (RD X.K X.mg) Q (.ok (.loc st1.length) (st1 ++ [.lst l]))) : Q (.ref Dl) m2.h := by
  have er : ∀ (n : Nat) (a : Addr), m2.r[n]? = some a → (m2.r ++ [Dl])[n]? = some a := fun n a z => by
    rw [List.getElem?_append_left (List.getElem?_eq_some_iff.mp z).1]; exact z
  have hn : (m2.r ++ [Dl])[st1.length]? = some Dl := by
    rw [← r2.len, List.getElem?_append_right (Nat.le_refl _)]
    simp
  refine hp ⟨m2.r ++ [Dl], m2.g, m2.h⟩ (.ref Dl) ?_ ?_ (.loc hn)
  · obtain ⟨t, ht⟩ := e2.pre
    refine ⟨⟨t ++ [Dl], by rw [ht, List.append_assoc]⟩, e2.g, fun a u q n => ?_⟩
    obtain ⟨k1, k2, k3⟩ := e2.fr a u q n
    refine ⟨k1, ?_, k3⟩
    have : a ≠ Dl := ne_of_none q hD
    show a ∉ m2.r ++ [Dl]
    simp [k2, this]
  · refine ⟨r2.sub, by simp [r2.len], ?_, fun a z => ?_, fun n a so e1 e2 => ?_⟩
    · show (m2.r ++ [Dl]).Nodup
      rw [List.nodup_append]
      refine ⟨r2.nd, by simp, fun a ha b hb e => ?_⟩
      have hb' : b = Dl := by simpa using hb
      subst e
      exact h2 (hb' ▸ ha)
    · have z' : a ∈ m2.r ++ [Dl] := z
      rcases List.mem_append.mp z' with z' | z'
      · exact r2.off a z'
      · have : a = Dl := by simpa using z'
        rw [this]; exact h3
    · have e1 : (m2.r ++ [Dl])[n]? = some a := e1
      by_cases hlt : n < m2.r.length
      · rw [List.getElem?_append_left hlt] at e1
        rw [List.getElem?_append_left (by rw [← r2.len]; exact hlt)] at e2
        exact (r2.obj n a so e1 e2).mono' er (fun _ _ z => z) fun u q => q
      · have hl := r2.len
        rw [List.getElem?_append_right (by omega)] at e1 e2
        have h0 : n - m2.r.length = 0 := by
          cases z : n - m2.r.length with
          | zero => rfl
          | succ k => rw [z] at e1; simp at e1
        have h0' : n - st1.length = 0 := by omega
        rw [h0] at e1; rw [h0'] at e2
        simp at e1 e2
        subst e1; subst e2
        exact ⟨vs, h1, Reps.mono' er (fun _ _ z => z) _ _ q2⟩
section
variable (hc : X.calm = true) (hN : X.N.Nodup) (hi : SI X W tg iter fi) (ok : BlkOk X.N X.env.scope scope own) (hw : ∀ i ∈ tgSl t, i ∈ own.map (·.2))
  (hg : ∀ (s : Shared) (H : Hp) (C : Addr) (cl : List (Str × Addr)) (fp : List Addr), PG (X.blk s H scope (compEnvC scope cl C X.env) fp) tg (gTg X.K t)) (ht : ∀ (s : Shared) (H : Hp) (C : Addr) (cl : List (Str × Addr)) (fp : List Addr), STs (X.blk s H scope (compEnvC scope cl C X.env) fp) (WF W) ifs ct)
  (he : ∀ (s : Shared) (H : Hp) (C : Addr) (cl : List (Str × Addr)) (fp : List Addr), SE (X.blk s H scope (compEnvC scope cl C X.env) fp) (WF W) elt fe) (hfs : ∀ x, foldedSetIterable iter X.env x = pure x)
include hc hN hi ok hw hg ht he hfs
theorem se_lc : SE X W (.ListComp elt [⟨tg, iter, ifs, 0⟩] scope pos) (fLc (own.map (·.2)) fi t ct fe) :=
  pe_weak (pe_lc (tt := TOf X.K X.mg (WF W) RB ct) (te := TOf X.K X.mg (WF W) (RD X.K X.mg) fe) hc hN hi ok hg ht he hfs) fun σ H Q ⟨m, sg, st, e, rm, rs, hp⟩ => by
    subst e
    exact tLc_of hw rm rs hp fun m1 l st1 Dl m2 vs e1 hD e2 h1 h2 h3 r2 q2 hp1 => lc_val hD e2 h1 h2 r2 q2 hp1
theorem se_lcN : SE X W (.ListComp elt [⟨tg, iter, ifs, 0⟩] scope pos) (fLcN (own.map (·.2)) fi t ct fe) :=
  pe_weak (pe_lc (tt := TOf X.K X.mg (WF W) RB ct) (te := TOf X.K X.mg (WF W) (RD X.K X.mg) fe) hc hN hi ok hg ht he hfs) fun σ H Q ⟨m, sg, st, e, rm, rs, hp⟩ => by
    subst e
    exact tLc_of hw rm rs hp fun m1 l st1 Dl m2 vs e1 hD e2 h1 h2 h3 r2 q2 hp1 => lc_new hD e2 h1 h2 h3 r2 q2 hp1
variable {i : Nat} {y : Str} {py spos : Pos} (hy : X.N[i]? = some y) (hyl : X.env.scope.names.lookup y = some .local) (hsw : swapsWith (.ListComp elt [⟨tg, iter, ifs, 0⟩] scope pos) (some (.Name y py)) spos.line X.env = pure true)
include hy hyl hsw
theorem ss_setLc : SS X W (.Assign [.Name y py] (.ListComp elt [⟨tg, iter, ifs, 0⟩] scope pos) spos) (sSet i (fLc (own.map (·.2)) fi t ct fe)) :=
  ps_weak (ps_setLc (tt := TOf X.K X.mg (WF W) RB ct) (te := TOf X.K X.mg (WF W) (RD X.K X.mg) fe) hc hN hy hyl hsw hi ok hg ht he hfs) fun D σ H ⟨m, sg, st, e, rm, rs, hp⟩ => by
    subst e
    have hp' := flwc (R := RD X.K X.mg) (Q := fun z H3 => D.nx (σ.set i (some z)) H3) hp rs fun m1 y v st1 e1 r1 q1 hp1 => hp1 m1 _ (Ext.refl _) r1 ((rs.mono e1).set i (.inl q1))
    exact tLc_of hw rm rs hp' fun m1 l st1 Dl m2 vs e1 hD e2 h1 h2 h3 r2 q2 hp1 => lc_val hD e2 h1 h2 r2 q2 hp1
theorem ss_setLcN : SS X W (.Assign [.Name y py] (.ListComp elt [⟨tg, iter, ifs, 0⟩] scope pos) spos) (sSet i (fLcN (own.map (·.2)) fi t ct fe)) :=
  ps_weak (ps_setLc (tt := TOf X.K X.mg (WF W) RB ct) (te := TOf X.K X.mg (WF W) (RD X.K X.mg) fe) hc hN hy hyl hsw hi ok hg ht he hfs) fun D σ H ⟨m, sg, st, e, rm, rs, hp⟩ => by
    subst e
    have hp' := flwc (R := RD X.K X.mg) (Q := fun z H3 => D.nx (σ.set i (some z)) H3) hp rs fun m1 y v st1 e1 r1 q1 hp1 => hp1 m1 _ (Ext.refl _) r1 ((rs.mono e1).set i (.inl q1))
    exact tLc_of hw rm rs hp' fun m1 l st1 Dl m2 vs e1 hD e2 h1 h2 h3 r2 q2 hp1 => lc_new hD e2 h1 h2 h3 r2 q2 hp1
end

/-! objects made -/
open Classical in
/-- an object of the class c, made by its __init__ and then only read -/
noncomputable def mkG (c : Nat) (Fk : D → Sto → Res D) : Sto → Res D := fun st => match Fk (.loc st.length) (st ++ [.ins c []]) with
  | .ok .non st2 => if st2.take st.length = st ∧ st2.length = st.length + 1 then (match st2[st.length]? with
    | some (.ins c' l') => if c' = c ∧ pus l' = true then .ok (.ins c l') st else .bad
    | _ => .bad) else .bad
  | .exc x none st2 => if st2.take st.length = st then .exc x none st else .bad
  | _ => .bad
noncomputable def mkF (c : Nat) (F : FF) (n : Nat) (dds : List D) : FF := fun l st => mkG c (fun x => cF F n dds (x :: l)) st
end
end Sh
/-! Part G: objects made, errors raised and caught, defs. -/
namespace Sh
open PySem L2
section
variable {X : Cx} {W : We} {e o a b c : Expr} {es : List Expr} {f fo fa fb : EF} {g : AF} {pos p apos pos' p2 pos2 : Pos} {x m : Str} {gs hs : SF} {st : Stmt} {rest body : List Stmt}
variable {k n : Nat} {fn C : Addr} {fd : FuncData} {ps : List Str} {F : FF} {dvs : List V} {ds : List Value} {dds : List D}
/-- C(..) at values: what __init__ leaves -/
theorem run_makeS {ci : Nat} {pins : List (Addr × Obj)} {σ : St} {s : Shared} {w : Hw} {stt : Sto} {l : List D} {vs : List V} {us : List Value} {Q : VK} (hc : X.mg (cName ci) = some (.ref C)) (M : Mk X.K C fn) (hF : FnOk X.prog X.w X.K X.mg X.base (L2.CX X.prog X.w) k fn fd ps (spF X.K X.mg n F)) (hr : Room (k + 1) X.A) (tk : Takes X W.w) (hb : Binds X.K fd ps ds) (hd : Dfl X.K X.mg ds dvs dds)
    (I : Inv X pins σ w.h s) (r : Vals vs us) (rm : Rel X.K X.mg w stt) (q : Reps X.K X.mg w.r w.g l vs)
    (h : ∀ x dx, w.h x = none → w.h dx = none → dx ≠ x → Post X.K X.mg W.w ⟨w.r ++ [x], w.g, upd (upd w.h dx (.own x)) x (.ins C dx [])⟩ σ (RD X.K X.mg) (fun v H2 => v = .non ∧ Q (.ref x) H2) (cF F n dds (.loc stt.length :: l) (stt ++ [.ins ci []]))) :
    wpAny (model X.prog X.w) X.A (call (.ref C) us) (EP X pins σ Q) X.xe s := by
  have n1 : w.h (s.heap.objs.size + 1) = none := I.hok.fresh (Nat.le_succ _)
  have n2 : w.h s.heap.objs.size = none := I.hok.fresh (Nat.le_refl _)
  have n3 : s.heap.objs.size ≠ s.heap.objs.size + 1 := Nat.ne_of_lt (Nat.lt_succ_self _)
  have hq := h _ _ n1 n2 n3
  have I2 := Inv.made (C := C) I
  have r0 := rm.side (o := .own (s.heap.objs.size + 1)) (rm.fresh n2) (rm.gnone n2)
  have n4 : (w.put s.heap.objs.size (.own (s.heap.objs.size + 1))).h (s.heap.objs.size + 1) = none := by
    show upd w.h _ _ _ = none
    rw [upd_ne (Ne.symm n3)]; exact n1
  have r1 := r0.new (o := .ins C s.heap.objs.size []) (so := .ins ci []) n4 ⟨C, _, [], hc, upd_same, by simp, .nil⟩
  have e1 : ∀ (i : Nat) (a : Addr), w.r[i]? = some a → (w.r ++ [s.heap.objs.size + 1])[i]? = some a := fun i a z => by
    rw [List.getElem?_append_left (List.getElem?_eq_some_iff.mp z).1]; exact z
  unfold cF at hq
  split at hq
  · rename_i hl
    have hsp : spF X.K X.mg n F (V.ref (s.heap.objs.size + 1) :: (vs ++ dvs)) (upd (upd w.h s.heap.objs.size (.own (s.heap.objs.size + 1))) (s.heap.objs.size + 1) (.ins C s.heap.objs.size [])) (fun v H2 => v = .non ∧ Q (.ref (s.heap.objs.size + 1)) H2) (WE W.w σ) :=
      ⟨⟨w.r ++ [s.heap.objs.size + 1], w.g, upd (upd w.h s.heap.objs.size (.own (s.heap.objs.size + 1))) (s.heap.objs.size + 1) (.ins C s.heap.objs.size [])⟩, .loc stt.length :: (l ++ dds), stt ++ [SO.ins ci []], rfl, r1, .cons (.loc (by
        show (w.r ++ [s.heap.objs.size + 1])[stt.length]? = _
        rw [← rm.len, List.getElem?_append_right (Nat.le_refl _)]
        simp)) ((Reps.mono' e1 (fun _ _ z => z) _ _ q).append (hd.r _ _)), by simpa using hl, hq.conv⟩
    have rr : Vals (V.ref (s.heap.objs.size + 1) :: (vs ++ dvs)) (Value.ref (s.heap.objs.size + 1) :: (us ++ ds)) := .cons rfl (r.append hd.v)
    have hlen : (Value.ref (s.heap.objs.size + 1) :: us ++ ds).length = ps.length := by
      have z := rr.length
      rw [hF.len _ _ _ _ hsp] at z
      exact z.symm
    have here := hF.run _ X.stack _ _ ⟨Value.ref (s.heap.objs.size + 1) :: us, []⟩ (Value.ref (s.heap.objs.size + 1) :: (us ++ ds)) _ _ (WE W.w σ) (hr.make C us []) (I2.env0.make C us []) (hb _ (Value.ref (s.heap.objs.size + 1) :: us) I2.kIn hlen) rr hsp
    refine wpAny_call (make_map (f := fn) I.kIn M.makes M.init (beq_iff_eq.mp M.fn) (codeAny_mono here fun res s' hz => ?_))
    match res, hz with
    | .error er, hz => exact passAt tk σ pins _ _ er s' I2 hz
    | .ok (.ret u), hz =>
      obtain ⟨v, H', I3, rv, ev, q3⟩ := I2.after hz
      subst ev
      exact ⟨rv, ⟨V.ref (s.heap.objs.size + 1), H', I3, rfl, q3⟩⟩
    | .ok .next, hz => exact False.elim hz
    | .ok .brk, hz => exact False.elim hz
    | .ok .cont, hz => exact False.elim hz
  · exact False.elim hq
/-- from the meaning of a made object that is only read -/
theorem mkG_post {ci : Nat} {σ : St} {w : Hw} {stt : Sto} {Fk : D → Sto → Res D} {Q : VK} (hc : X.mg (cName ci) = some (.ref C)) (rm : Rel X.K X.mg w stt) (hp : Post X.K X.mg W.w w σ (RD X.K X.mg) Q (mkG ci Fk stt)) :
    ∀ x dx, w.h x = none → w.h dx = none → dx ≠ x → Post X.K X.mg W.w ⟨w.r ++ [x], w.g, upd (upd w.h dx (.own x)) x (.ins C dx [])⟩ σ (RD X.K X.mg) (fun v H2 => v = .non ∧ Q (.ref x) H2) (Fk (.loc stt.length) (stt ++ [.ins ci []])) := by
  intro x dx hx hdx hne
  have e0 : Ext w ⟨w.r ++ [x], w.g, upd (upd w.h dx (.own x)) x (.ins C dx [])⟩ := by
    refine ⟨⟨[x], rfl⟩, fun _ _ z => z, fun a u q n => ⟨?_, ?_, fun z => z⟩⟩
    · show upd (upd w.h dx (.own x)) x (.ins C dx []) a = some u
      rw [upd_ne (ne_of_none q hx), upd_ne (ne_of_none q hdx)]; exact q
    · have : a ≠ x := ne_of_none q hx
      show a ∉ w.r ++ [x]
      simp [n, this]
  have hxr : x ∉ w.r := rm.fresh hx
  unfold mkG at hp
  split at hp
  · rename_i st2 hq
    rw [hq]
    split at hp
    · rename_i hst
      split at hp
      · rename_i c' l' hl'
        split at hp
        · rename_i hcl
          intro m' v e1 r1 q1
          cases q1
          refine ⟨rfl, ?_⟩
          have hat : m'.r[stt.length]? = some x := e1.at_ (by
            show (w.r ++ [x])[stt.length]? = _
            rw [← rm.len, List.getElem?_append_right (Nat.le_refl _)]
            simp)
          have hxm : x ∈ m'.r := List.mem_of_getElem? hat
          obtain ⟨rfl, hpu⟩ := hcl
          obtain ⟨C', dx', fs, k1, k2, k3, k4⟩ := r1.obj _ _ _ hat hl'
          have e2 := e0.trans e1
          have gx := r1.off x hxm
          have hg : ∀ a u, m'.g a = some u → upd m'.g x (.ins C' dx' fs) a = some u := fun a u z => by
            rw [upd_ne (ne_of_none z gx)]; exact z
          refine hp ⟨w.r, upd m'.g x (.ins C' dx' fs), m'.h⟩ (.ref x) ?_ (rm.cut r1 e2 hst.1 _ (fun a u z => ?_) (fun a z => ?_) hg) (.ins k1 upd_same k3 (reps_pu _ _ hpu (Reps.mono' (fun _ _ z => z) hg _ _ k4)))
          · refine ⟨⟨[], by simp⟩, fun a u z => hg a u (e2.g a u z), fun a u q n => ?_⟩
            obtain ⟨j1, j2, j3⟩ := e2.fr a u q n
            refine ⟨j1, n, fun z => ?_⟩
            show upd m'.g x _ a = none
            rw [upd_ne (ne_of_none q hx)]; exact j3 z
          · by_cases z' : a = x
            · subst z'; rw [upd_same] at z; cases z; exact k2
            · rw [upd_ne z'] at z; exact r1.sub a u z
          · have : a ≠ x := fun z' => hxr (z' ▸ z)
            rw [upd_ne this]
            obtain ⟨t, ht⟩ := e2.pre
            exact r1.off a (by rw [ht]; exact List.mem_append_left _ z)
        · exact False.elim hp
      · exact False.elim hp
    · exact False.elim hp
  · rename_i xc st2 hq
    rw [hq]
    split at hp
    · rename_i hst
      intro m' cls dx' e1 r1 q1
      have e2 := e0.trans e1
      refine hp ⟨w.r, m'.g, m'.h⟩ cls dx' ⟨⟨[], by simp⟩, e2.g, fun a u q n => let ⟨j1, _, j3⟩ := e2.fr a u q n; ⟨j1, n, j3⟩⟩ (rm.cut r1 e2 hst _ r1.sub (fun a z => ?_) fun _ _ z => z) q1
      obtain ⟨t, ht⟩ := e2.pre
      exact r1.off a (by rw [ht]; exact List.mem_append_left _ z)
    · exact False.elim hp
  · exact False.elim hp
theorem mkF_post {ci : Nat} {σ : St} {w : Hw} {stt : Sto} {l : List D} {Q : VK} (hc : X.mg (cName ci) = some (.ref C)) (rm : Rel X.K X.mg w stt) (hp : Post X.K X.mg W.w w σ (RD X.K X.mg) Q (mkF ci F n dds l stt)) :
    ∀ x dx, w.h x = none → w.h dx = none → dx ≠ x → Post X.K X.mg W.w ⟨w.r ++ [x], w.g, upd (upd w.h dx (.own x)) x (.ins C dx [])⟩ σ (RD X.K X.mg) (fun v H2 => v = .non ∧ Q (.ref x) H2) (cF F n dds (.loc stt.length :: l) (stt ++ [.ins ci []])) := mkG_post (Fk := fun x => cF F n dds (x :: l)) hc rm hp
theorem se_make {ci : Nat} (hc : X.mg (cName ci) = some (.ref C)) (M : Mk X.K C fn) (hF : FnOk X.prog X.w X.K X.mg X.base (L2.CX X.prog X.w) k fn fd ps (spF X.K X.mg n F)) (hr : Room (k + 1) X.A) (tk : Takes X W.w) (hg : Gl X x) (hm : X.mg x = some (.ref C)) (hb : Binds X.K fd ps ds) (hd : Dfl X.K X.mg ds dvs dds)
    (ha : SA X W (e :: es) g) (hdb : (x == ("__debug__" : Str)) = false := by decide) (he : starEach (e :: es) X.env = (false, eval e X.env) :: starEach es X.env := by rfl) (hpl : (backTo pos (starEach es X.env)).any (·.1) = false := by rfl) :
    SE X W (.Call (.Name x p) (e :: es) [] pos) (fCall (mkF ci F n dds) g) := by
  refine ⟨fun pins s σ H Q I h => ?_⟩
  obtain ⟨w, sg, st, rfl, rm, rs, hp⟩ := h
  refine wpAny_Call_Name_kw (ld_glob I hg hm ?_ hdb)
  refine PySem.W.callWith_K (h₀ := X.base) I.ok.mod.kin M.kp (thn (ha.run pos pins s σ w.h (fun vs H2 => ∃ m2 l st2, m2.h = H2 ∧ Rel X.K X.mg m2 st2 ∧ Reps X.K X.mg m2.r m2.g l vs ∧ Post X.K X.mg W.w m2 σ (RD X.K X.mg) Q (mkF ci F n dds l st2)) I
    ⟨w, sg, st, rfl, rm, rs, hp.bindc fun m2 l vs st2 e2 r2 q2 hp2 => ⟨m2, l, st2, rfl, r2, q2, hp2⟩⟩) fun us s1 hz => ?_) he hpl
  obtain ⟨vs, H2, I2, rv2, m2, l, st2, rfl, r2, q2, hp2⟩ := hz
  exact ⟨I2.kIn, run_makeS hc M hF hr tk hb hd I2 rv2 r2 q2 (mkF_post hc r2 hp2)⟩
theorem se_make0 {ci : Nat} (hc : X.mg (cName ci) = some (.ref C)) (M : Mk X.K C fn) (hF : FnOk X.prog X.w X.K X.mg X.base (L2.CX X.prog X.w) k fn fd ps (spF X.K X.mg n F)) (hr : Room (k + 1) X.A) (tk : Takes X W.w) (hg : Gl X x) (hm : X.mg x = some (.ref C)) (hb : Binds X.K fd ps ds) (hd : Dfl X.K X.mg ds dvs dds)
    (hdb : (x == ("__debug__" : Str)) = false := by decide) : SE X W (.Call (.Name x p) [] [] pos) (fCall (mkF ci F n dds) aNil) := by
  refine ⟨fun pins s σ H Q I h => ?_⟩
  obtain ⟨w, sg, st, rfl, rm, rs, hp⟩ := h
  refine wpAny_Call_Name_kw (ld_glob I hg hm ?_ hdb)
  exact PySem.W.callWith_K0 I.kIn M.kp (run_makeS (us := []) hc M hF hr tk hb hd I .nil rm .nil (mkF_post hc rm hp))
/-- self.f = e -/
def stFld (c i : Nat) (x d : D) (st : Sto) : Option Sto := match x with
  | .loc n => match st[n]? with
    | some (.ins c' l) => if c' = c ∧ i ≤ l.length then some (st.set n (.ins c (if i < l.length then l.set i d else l ++ [d]))) else none
    | _ => none
  | _ => none
def rFldS (c i : Nat) (fo f : EF) : Sg → Sto → Res Unit := fun sg st => (f sg st).bind fun d st1 => (fo sg st1).bind fun x st2 => match stFld c i x d st2 with
  | some st3 => .ok () st3
  | none => .bad
@[simp] def sFldS (c i : Nat) (fo f : EF) : SF := fun sg st => (rFldS c i fo f sg st).flw sg fun _ st4 => .nx sg st4
theorem putF_old {f : Str} {y : V} : ∀ {fs : List (Str × V)} {ns : List Str} {i : Nat}, fs.map (·.1) = ns → ns.Nodup → ns[i]? = some f → (putF f y fs).map (·.1) = ns ∧ (putF f y fs).map (·.2) = (fs.map (·.2)).set i y
  | [], ns, i, h, _, e => by simp at h; subst h; simp at e
  | (f', v') :: fs, ns, i, h, nd, e => by
    simp at h
    subst h
    unfold putF
    cases i with
    | zero =>
      simp at e
      subst e
      simp
    | succ i =>
      have hne : ¬ f' = f := fun z => by
        subst z
        exact (List.nodup_cons.mp nd).1 (List.mem_of_getElem? (i := i) (by simpa using e))
      obtain ⟨h1, h2⟩ := putF_old (y := y) (fs := fs) (i := i) rfl (List.nodup_cons.mp nd).2 (by simpa using e)
      rw [if_neg hne]
      constructor
      · simp [h1]
      · simp [h2]
theorem putF_new {f : Str} {y : V} : ∀ {fs : List (Str × V)}, f ∉ fs.map (·.1) → putF f y fs = fs ++ [(f, y)]
  | [], _ => rfl
  | (f', v') :: fs, h => by
    have hne : ¬ f' = f := fun z => h (by simp [z])
    unfold putF
    rw [if_neg hne, putF_new (fs := fs) fun z => h (by simp at z ⊢; exact .inr z)]
    rfl
theorem ss_fld {ci i : Nat} (hc : X.mg (cName ci) = some (.ref C)) (cl : Cls X.K C) (na : NoAttr X.K C m) (hf : (cFlds ci)[i]? = some m) (hnd : (cFlds ci).Nodup) (hlen : (cFlds ci).length < 1000) (ho : SE X W o fo) (he : SE X W e f) (hs : swapsWith e (some (.Attribute o m pos')) pos.line X.env = pure false := by rfl) :
    SS X W (.Assign [.Attribute o m pos'] e pos) (sFldS ci i fo f) :=
  ps_weak (ps_fld ho he hs) fun D σ H ⟨w, sg, st, e, rm, rs, hp⟩ => ⟨w, sg, st, e, rm, rs, by
    have hp' := flwc (r := rFldS ci i fo f sg st) (R := fun _ _ _ => True) (β := Unit) (Q := fun _ H3 => D.nx σ H3) hp rs fun m1 y v st1 e1 r1 q1 hp1 => hp1 m1 _ (Ext.refl _) r1 (rs.mono e1)
    unfold rFldS at hp'
    refine hp'.bindc fun m1 d v st1 e1 r1 q1 hp1 => ⟨m1, sg, st1, rfl, r1, rs.mono e1, hp1.bindc fun m2 x u st2 e2 r2 q2 hp2 => ?_⟩
    split at hp2
    · rename_i st3 hst
      unfold stFld at hst
      split at hst
      · split at hst
        · rename_i c' l hl
          split at hst
          · rename_i hcc
            cases hst
            obtain ⟨rfl, hi⟩ := hcc
            cases q2 with
            | loc hr =>
              obtain ⟨C', dx, fs, k1, k2, k3, k4⟩ := r2.obj _ _ _ hr hl
              rw [hc] at k1
              cases k1
              have hlf : fs.length = l.length := by have := k4.length; simpa using this.symm
              have hll : l.length ≤ (cFlds c').length := by
                have z := congrArg List.length k3
                simp at z
                omega
              refine ⟨_, C, dx, fs, rfl, k2, cl, na, by omega, ?_⟩
              refine hp2 (m2.put _ (.ins C dx (putF m v fs))) () (Ext.put (List.mem_of_getElem? hr)) (r2.put hr ?_) trivial
              split
              · rename_i hlt
                obtain ⟨z1, z2⟩ := putF_old (y := v) k3 (hnd.sublist (List.take_sublist _ _)) (take_at hf hlt)
                exact ⟨C, dx, _, hc, upd_same, by rw [z1]; simp, by rw [z2]; exact k4.set (q1.mono e2) i⟩
              · rename_i hge
                have hil : i = l.length := by omega
                subst hil
                have hnot : m ∉ fs.map (·.1) := fun z => by
                  rw [k3] at z
                  obtain ⟨j, hj, hm⟩ := List.mem_iff_getElem.mp z
                  rw [List.getElem_take] at hm
                  have hj' : j < l.length := by have := hj; simp at this; omega
                  have := nodup_ix hnd (i := j) (j := l.length) (x := m) (by rw [List.getElem?_eq_getElem (by omega), hm]) hf
                  omega
                refine ⟨C, dx, _, hc, upd_same, ?_, ?_⟩
                · rw [putF_new hnot, List.map_append, k3, List.length_append]
                  show _ ++ [m] = _
                  have hlt : l.length < (cFlds c').length := (List.getElem?_eq_some_iff.mp hf).1
                  have hm : (cFlds c')[l.length] = m := (List.getElem?_eq_some_iff.mp hf).2
                  rw [show l.length + [d].length = l.length + 1 from rfl, List.take_succ_eq_append_getElem hlt, hm]
                · rw [putF_new hnot, List.map_append]
                  exact k4.append (.one (q1.mono e2))
          · cases hst
        · cases hst
      · cases hst
    · exact False.elim hp2⟩
/-! errors -/
structure XOwn (X : Cx) (c : Nat) (C : Addr) : Prop where
  g : X.mg (xName c) = some (.ref C)
  q : PySem.W.excIn X.K C [.type "ValueError", .type "Exception", .type "BaseException", .type "object"] "ValueError.__new__" = true
  k : PySem.W.keepIn X.K (.ref C) = true
  r : Raises X (.ref C)
theorem ss_raise {ci j : Nat} {msg : Str} (xo : XOwn X ci C) (hx : xName ci = x) (hc : X.calm = true) (tk : Takes X W.w) (hg : Gl X x) (hdb : (x == ("__debug__" : Str)) = false := by decide) : SS X W (.Raise (some (.Call (.Name x p) [.Constant (.str msg) j p2] [] pos)) none pos2) (fun sg st => .exc ci none sg st) := by
  subst hx
  exact ps_weak (ps_raise hc tk (pmk_own PySem.F.excBase_ValueError xo.q xo.g xo.k xo.r hg hdb)) fun D σ H ⟨w, sg, st, e, rm, rs, hp⟩ => by
    subst e
    exact hp w σ (.ref C) none (Ext.refl _) rm rs ⟨C, xo.g, rfl, rfl⟩
/-! try: body, except x as n: suite -/
@[simp] def Flw.unx (i : Nat) : Flw → Flw
  | .nx sg st => .nx (sg.set i none) st
  | .brk sg st => .brk (sg.set i none) st
  | .cnt sg st => .cnt (sg.set i none) st
  | .ret d st => .ret d st
  | _ => .bad
/-- hc: whether the clause takes an error of that class; c0: the one that it takes -/
def sTryAs (g : SF) (hc : Nat → Option Bool) (c0 : Nat) (fl : Bool) (i : Nat) (su : Option D → SF) : SF := fun sg st => match g sg st with
  | .exc c o sg1 st1 => match hc c with
    | some true => if c = c0 ∧ o.isSome = fl then (su o (sg1.set i (some .exn)) st1).unx i else .bad
    | some false => .exc c o sg1 st1
    | none => .bad
  | r => r
theorem unx_ok {K : PySem.W.Frag} {mg : Str → Option Value} {w w' : WX} {y : Ex} {m1 : Hw} {D : Ends} {z : Flw} (h : PostS K mg ⟨w, none⟩ m1 D (z.unx y.i)) :
    PostS K mg ⟨w', some y⟩ m1 { nx := fun σ' H' => D.nx (σ'.set y.i none) H', rt := D.rt, bk := fun σ' H' => D.bk (σ'.set y.i none) H', ct := fun σ' H' => D.ct (σ'.set y.i none) H' } z := by
  cases z with
  | nx sg st => exact fun m' σ' e r s => h m' _ e r s.unheld
  | brk sg st => exact fun m' σ' e r s => h m' _ e r s.unheld
  | cnt sg st => exact fun m' σ' e r s => h m' _ e r s.unheld
  | ret d st => exact fun m' v e r s => h m' v e r s
  | exc c o sg st => exact False.elim h
  | bad => exact False.elim h
def WS (y : Ex) : We := ⟨fun _ _ _ _ => False, some y⟩
theorem ss_tryAs {w : WX} {xn n : Str} {cv : Value} {c0 i : Nat} {suite : List Stmt} {b₀ : Stmt} {np : Pos} {hc : Nat → Option Bool} {fl : Bool} {su : Option D → SF} (hs : X.stack = X.env :: X.outer) (hf : X.env.frame = some X.env.locals) (hN : X.N.Nodup) (hi : X.N[i]? = some n) (hln : X.env.kindOf n = some .local) (hnm : Names X xn cv) (tk : Takes X w)
    (hh : ∀ c b C, hc c = some b → X.mg (xName c) = some (.ref C) → PySem.W.exmOne X.K (.ref C) cv = some b)
    (hb : ∀ (W' : WX) (pn : List (Addr × Obj)) (xe : Value → Shared → Prop), Takes (X.tr pn xe) W' → PassesOwn (model X.prog X.w) X.A X.env xe → SSs (X.tr pn xe) ⟨W', none⟩ body gs)
    (hsu : ∀ (a : Addr) (oe : Obj) (C : Addr) (d : Option Addr) (o : Option D) (pn : List (Addr × Obj)), X.mg (xName c0) = some (.ref C) → o.isSome = fl → (o = none → d = none) → Zc (.ref C) d oe → (∃ vs, oe.data = .fields vs) → SSs (X.suite a ((a, oe) :: pn)) (WS ⟨i, a, .ref C, d, c0, o⟩) (b₀ :: suite) (su o)) :
    SS X ⟨w, none⟩ (.Try body [.ExceptHandler (some (.Name xn np)) (some n) (b₀ :: suite) pos'] [] [] pos) (sTryAs gs hc c0 fl i su) :=
  ps_weak (ps_try_as (tb := fun W' => SOf X.K X.mg ⟨W', none⟩ gs) (ts := fun a cls d D σ H => ∃ C o, cls = .ref C ∧ X.mg (xName c0) = some (.ref C) ∧ o.isSome = fl ∧ (o = none → d = none) ∧ SOf X.K X.mg (WS ⟨i, a, cls, d, c0, o⟩) (su o) D σ H) hs hf hN hi hln hnm tk hb
    (fun a oe cls d pn hz hv => ⟨fun pins s σ H D I ⟨C, o, h1, h2, h4, h5, h3⟩ => by
      subst h1
      exact (hsu a oe C d o pn h2 h4 h5 hz hv).run pins s σ H D I h3⟩)) fun D σ H ⟨m, sg, st, e, rm, rs, hp⟩ => ⟨m, sg, st, e, rm, rs, by
    unfold sTryAs at hp
    cases hg : gs sg st with
    | exc c o sg1 st1 =>
      rw [hg] at hp
      intro m' σ' cls dx e' r' s' x'
      have x2 := x'
      obtain ⟨C, k1, k2, k3⟩ := x'
      subst k2
      dsimp only at hp
      cases hq : hc c with
      | none => rw [hq] at hp; exact False.elim hp
      | some b =>
        rw [hq] at hp
        refine ⟨b, hh c b C hq k1, fun hbt a ha => ?_, fun hbf => ?_⟩
        · subst hbt
          dsimp only at hp
          split at hp
          · rename_i hcc
            obtain ⟨hcc, hfl⟩ := hcc
            subst hcc
            refine ⟨C, o, rfl, k1, hfl, (fun z => by subst z; exact k3), m', sg1.set i (some .exn), st1, rfl, r', ?_, unx_ok (y := ⟨i, a, .ref C, dx, c, o⟩) (PostS.mono hp e')⟩
            exact (SgRep.held s').set i (.inr ⟨rfl, _, rfl, rfl, rfl, x2⟩)
          · exact False.elim hp
        · subst hbf
          exact hp m' σ' (.ref C) dx e' r' s' x2
    | nx sg1 st1 => rw [hg] at hp; exact hp
    | ret d st1 => rw [hg] at hp; exact hp
    | brk sg1 st1 => rw [hg] at hp; exact hp
    | cnt sg1 st1 => rw [hg] at hp; exact hp
    | bad => rw [hg] at hp; exact hp⟩
/-! within a suite: isinstance(e, T) -/
@[simp] def fIsE (i : Nat) (b : Bool) : EF := fun sg st => match sg[i]? with
  | some (some .exn) => .ok (.bl b) st
  | _ => .bad
theorem se_isE {y : Ex} {oe : Obj} {pn : List (Addr × Obj)} {c : V} {cv : Value} {bb : Bool} {e2 : Expr} {n : Str} {pp : Pos} (hcl : y.cls = .ref C) (hd : y.d = none) (T : ExcC X.K C) (hz : Zc (.ref C) none oe) (hf : ∃ vs, oe.data = .fields vs) (hg : Gl X "isinstance") (hm : X.mg "isinstance" = none)
    (h1 : PE (X.suite y.a ((y.a, oe) :: pn)) (.Name n pp) (tVar y.i)) (h2 : PE (X.suite y.a ((y.a, oe) :: pn)) e2 (tC c)) (hcv : ∀ u, RelV c u → u = cv) (hk : PySem.W.kitOne X.K (.ref C) cv = some bb)
    (he : starEach (.Name n pp :: [e2]) X.env = (false, eval (.Name n pp) X.env) :: starEach [e2] X.env := by rfl) (hpl : (backTo pos (starEach [e2] X.env)).any (·.1) = false := by rfl) (hs : starEach (e2 :: []) X.env = (false, eval e2 X.env) :: starEach [] X.env := by rfl) :
    SE (X.suite y.a ((y.a, oe) :: pn)) (WS y) (.Call (.Name "isinstance" p) [.Name n pp, e2] [] pos) (fIsE y.i bb) :=
  pe_weak (pe_callB (call_isE T hz hf) hg hm (by decide +kernel) (pa_cons h1 (pa_cons h2 pa_nil hs) he) (by decide) (by decide) he hpl) fun σ H Q ⟨m, sg, st, e, rm, rs, hp⟩ => by
    subst e
    unfold fIsE at hp
    split at hp
    · rename_i hsl
      obtain ⟨v, k1, k2⟩ := rs.2 _ _ hsl
      rcases k2 with k2 | ⟨_, z, z1, _, z3, _⟩
      · cases k2
      · have z1 : some y = some z := z1
        cases z1
        subst z3
        exact ⟨_, k1, c, cv, bb, rfl, hcv, hk, hp.okc rm (.bl _)⟩
    · exact False.elim hp
end

/-! defs -/
section
variable {P : Program} {w : World} {K : PySem.W.Frag} {mg : Str → Option Value} {base : Heap}
def fnF (n : Nat) (g : SF) : FF := fun ds st => match g (ds.map some ++ List.replicate (n - ds.length) none) st with
  | .nx _ st1 => .ok .non st1
  | .ret d st1 => .ok d st1
  | .exc c o _ st1 => .exc c o st1
  | _ => .bad
theorem start_rep {m : Hw} {N : List Str} {ds : List D} {vs : List V} (h : Reps K mg m.r m.g ds vs) : SgRep K mg none m (ds.map some ++ List.replicate (N.length - ds.length) none) (L2.start N vs) := by
  have hl := h.length
  refine ⟨by unfold L2.start; simp [hl], fun i d q => ?_⟩
  by_cases hi : i < ds.length
  · rw [List.getElem?_append_left (by simpa using hi), List.getElem?_map] at q
    cases hq : ds[i]? with
    | none => rw [hq] at q; cases q
    | some x =>
      rw [hq] at q
      cases q
      obtain ⟨v, h1, h2⟩ := h.get hq
      refine ⟨v, ?_, .inl h2⟩
      unfold L2.start
      rw [List.getElem?_append_left (by simpa [← hl] using hi), List.getElem?_map, h1]
      rfl
  · rw [List.getElem?_append_right (by simpa using Nat.le_of_not_lt hi), List.getElem?_replicate] at q
    split at q <;> cases q
theorem fn_post {n : Nat} {m : Hw} {w : WX} {E : XK} {Q : VK} {ds : List D} {st : Sto} {g : SF} (hw : ∀ c d σ H, E c d H → w c d σ H) (hp : Post K mg (fun c d _ H => E c d H) m [] (RD K mg) Q (fnF n g ds st)) :
    PostS K mg ⟨w, none⟩ m { nx := fun _ H' => Q .non H', rt := Q } (g (ds.map some ++ List.replicate (n - ds.length) none) st) := by
  unfold fnF at hp
  split at hp
  · rename_i h; rw [h]; exact fun m' σ e r s => hp m' .non e r .non
  · rename_i h; rw [h]; exact fun m' v e r s => hp m' v e r s
  · rename_i h; rw [h]; exact fun m' σ cls dx e r s x => hw _ _ _ _ (hp m' cls dx e r x)
  · exact False.elim hp
/-- THE RULE for a def: its body means g, then it promises what g computes -/
theorem fn_ok {x qual : Str} {st : Stmt} {f : Addr} {fd : FuncData} {N ps : List Str} {k : Nat} {g : SF} (F : Fun K x qual st f fd) (S : FnScope N ps (defScope st))
    (hb : ∀ (cdv : Value) (A : Around) (outer : List Env) (s : Shared) (H : Hp) (E : XK), Room k (A.deeper (PyProof.Rows.envOfC qual (defScope st) s.heap.objs.size f cdv)) →
      SSs (cxOf (L2.CX P w) P w K mg base N qual (defScope st) f cdv A outer s H E) ⟨fun cls d _ H => E cls d H, none⟩ (defBody st) g) : FnOk P w K mg base (L2.CX P w) (k + 1) f fd ps (spF K mg ps.length (fnF N.length g)) := by
  refine F.okX S (fun vs H Q E h => ?_) (fun cdv A outer s H vs Q E hr h => ⟨_, hb cdv A outer s H E hr, ?_⟩)
  · obtain ⟨m, ds, st, _, _, h3, h4, _⟩ := h
    rw [← h3.length]; exact h4
  · obtain ⟨m, ds, st, h1, h2, h3, h4, h5⟩ := h
    exact ⟨m, _, st, h1, h2, start_rep h3, fn_post (fun _ _ _ _ z => z) h5⟩
/-- a def whose parameters have defaults -/
theorem fn_okD {x qual : Str} {st : Stmt} {f : Addr} {fd : FuncData} {N ps : List Str} {k : Nat} {g : SF} {dvs : List V} (F : FunD K x qual (defArgs st) (defBody st) (defScope st) dvs [] f fd) (S : FnScope N ps (defScope st))
    (hb : ∀ (cdv : Value) (A : Around) (outer : List Env) (s : Shared) (H : Hp) (E : XK), Room k (A.deeper (PyProof.Rows.envOfC qual (defScope st) s.heap.objs.size f cdv)) →
      SSs (cxOf (L2.CX P w) P w K mg base N qual (defScope st) f cdv A outer s H E) ⟨fun cls d _ H => E cls d H, none⟩ (defBody st) g) : FnOk P w K mg base (L2.CX P w) (k + 1) f fd ps (spF K mg ps.length (fnF N.length g)) := by
  refine F.ok S (fun vs H Q E h => ?_) (fun cdv A outer s H vs Q E hr h => ⟨_, hb cdv A outer s H E hr, ?_⟩)
  · obtain ⟨m, ds, st, _, _, h3, h4, _⟩ := h
    rw [← h3.length]; exact h4
  · obtain ⟨m, ds, st, h1, h2, h3, h4, h5⟩ := h
    exact ⟨m, _, st, h1, h2, start_rep h3, fn_post (fun _ _ _ _ z => z) h5⟩
/-- the law's promise, from what it computes -/
theorem law_ok {fa : Addr} {fd : FuncData} {k : Nat} {ps : List Str} {F : FF} (h : FnOk P w K mg base (L2.CX P w) k fa fd ps (spF K mg 1 F)) (ht : ∀ l : List Int, l.length ≤ 63 → ∃ st, F [.scr l] [] = .ok (.bl true) st) :
    FnOk P w K mg base (L2.CX P w) k fa fd ps (fun vs H Q _ => ∃ (a : Addr) (ns : List Int), vs = [.ref a] ∧ SqL K H a (ns.map V.int) ∧ ns.length ≤ 63 ∧ ∀ H', Q (.bl true) H') := by
  refine h.imp fun vs H Q E ⟨a, ns, h1, h2, h3, h4⟩ => ?_
  subst h1
  obtain ⟨st, hst⟩ := ht ns h3
  refine ⟨⟨[], fun b => if b = a then H a else none, H⟩, [.scr ns], [], rfl, ⟨fun b o e => ?_, rfl, List.nodup_nil, fun _ z => by simp at z, fun n b so e => by simp at e⟩, .one (.scr ?_), rfl, ?_⟩
  · have e : (if b = a then H a else none) = some o := e
    split at e
    · rename_i q; rw [q]; exact e
    · cases e
  · rcases h2 with (h | ⟨o, h⟩) | h
    · exact .inl (.inl (by show (if a = a then H a else none) = _; rw [if_pos rfl]; exact h))
    · exact .inl (.inr ⟨o, by show (if a = a then H a else none) = _; rw [if_pos rfl]; exact h⟩)
    · exact .inr h
  · rw [hst]
    intro m' v e r q
    cases q
    exact h4 m'.h
end
end Sh
/-! Part H: defs as they stand behind the top, by names; the head's facts; the end. -/
namespace Sh
open PySem L2 He
theorem _root_.L2.FunD.lk {K : PySem.W.Frag} {x qual : Str} {params : Arguments} {body : List Stmt} {scope : Scope} {dvs : List V} {kws : List (Str × V)} {f : Addr} {fd : FuncData} (F : FunD K x qual params body scope dvs kws f fd) : ∃ oc od osl, K.lookup f = some ⟨oc, od, .func fd, osl⟩ := by
  obtain ⟨oc, od, dV, kV, doc, pm, an, cdv, ct, osl, _, lk, _⟩ := F.ex
  exact ⟨oc, od, osl, lk⟩
/-- a def that keeps its promise, with its defaults -/
structure DefOk (P : Program) (w : World) (K : PySem.W.Frag) (mg : Str → Option Value) (base : Heap) (k : Nat) (f : Addr) (ps : List Str) (dvs : List V) (F : FF) : Prop where
  ex : ∃ fd, FnOk P w K mg base (L2.CX P w) k f fd ps (spF K mg ps.length F) ∧ (∀ j, j ≤ dvs.length → ∃ ds, Vals (dvs.drop j) ds ∧ Binds K fd ps ds) ∧ ∃ oc od osl, K.lookup f = some ⟨oc, od, .func fd, osl⟩
  kp : PySem.W.keepIn K (.ref f) = true
section
variable {X : Cx} {W : We} {e o : Expr} {es : List Expr} {fo : EF} {g : AF} {pos p apos : Pos} {x m : Str} {k : Nat} {fa C : Addr} {ps : List Str} {dvs : List V} {dds : List D} {F : FF} {j : Nat}
theorem se_callD (h : DefOk X.prog X.w X.K X.mg X.base k fa ps dvs F) (j : Nat) (hj : j ≤ dvs.length) (hd : ∀ r G, Reps X.K X.mg r G dds (dvs.drop j)) (hr : Room k X.A) (tk : Takes X W.w) (hg : Gl X x) (hm : X.mg x = some (.ref fa))
    (ha : SA X W (e :: es) g) (hdb : (x == ("__debug__" : Str)) = false := by decide) (he : starEach (e :: es) X.env = (false, eval e X.env) :: starEach es X.env := by rfl) (hpl : (backTo pos (starEach es X.env)).any (·.1) = false := by rfl) :
    SE X W (.Call (.Name x p) (e :: es) [] pos) (fCall (cF F ps.length dds) g) := by
  obtain ⟨⟨fd, h1, h2, _⟩, h3⟩ := h
  obtain ⟨ds, v, b⟩ := h2 j hj
  exact se_call h1 hr tk hg hm h3 b ⟨v, hd⟩ ha hdb he hpl
theorem se_call0D (h : DefOk X.prog X.w X.K X.mg X.base k fa ps dvs F) (j : Nat) (hj : j ≤ dvs.length) (hd : ∀ r G, Reps X.K X.mg r G dds (dvs.drop j)) (hr : Room k X.A) (tk : Takes X W.w) (hg : Gl X x) (hm : X.mg x = some (.ref fa))
    (hdb : (x == ("__debug__" : Str)) = false := by decide) : SE X W (.Call (.Name x p) [] [] pos) (fun _ st => cF F ps.length dds [] st) := by
  obtain ⟨⟨fd, h1, h2, _⟩, h3⟩ := h
  obtain ⟨ds, v, b⟩ := h2 j hj
  exact se_call0 h1 hr tk hg hm h3 b ⟨v, hd⟩ hdb
theorem se_methD {c : Nat} {pl : Sem Bool} (h : DefOk X.prog X.w X.K X.mg X.base k fa ps dvs F) (j : Nat) (hj : j ≤ dvs.length) (hd : ∀ r G, Reps X.K X.mg r G dds (dvs.drop j)) (hr : Room k X.A) (tk : Takes X W.w) (hc : X.mg (cName c) = some (.ref C)) (cl : Cls X.K C) (hme : Meth X.K C m fa) (hnf : m ∉ cFlds c)
    (ho : SE X W o fo) (ha : SA X W (e :: es) g) (hst : starEach (e :: es) X.env = (false, eval e X.env) :: starEach es X.env := by rfl) (hpl : (backTo pos (starEach es X.env)).any (·.1) = false := by rfl)
    (ht : eval (.Call (.Attribute o m apos) (e :: es) [] pos) X.env = (do let ov ← eval o X.env; standAt apos.atName; let (f, first) ← holding [ov] (getMethod ov m pl); callWith pos f first (backTo pos (starEach (e :: es) X.env)) (backToKw pos (keywordEach [] X.env))) := by rfl) :
    SE X W (.Call (.Attribute o m apos) (e :: es) [] pos) (fMeth c F ps.length dds fo g) := by
  obtain ⟨⟨fd, h1, h2, _⟩, h3⟩ := h
  obtain ⟨ds, v, b⟩ := h2 j hj
  exact se_meth (pl := pl) h1 hr tk hc cl hme hnf b ⟨v, hd⟩ ho ha hst hpl ht
theorem se_meth0D {c : Nat} {pl : Sem Bool} (h : DefOk X.prog X.w X.K X.mg X.base k fa ps dvs F) (j : Nat) (hj : j ≤ dvs.length) (hd : ∀ r G, Reps X.K X.mg r G dds (dvs.drop j)) (hr : Room k X.A) (tk : Takes X W.w) (hc : X.mg (cName c) = some (.ref C)) (cl : Cls X.K C) (hme : Meth X.K C m fa) (hnf : m ∉ cFlds c)
    (ho : SE X W o fo)
    (ht : eval (.Call (.Attribute o m apos) [] [] pos) X.env = (do let ov ← eval o X.env; standAt apos.atName; let (f, first) ← holding [ov] (getMethod ov m pl); callWith pos f first (backTo pos (starEach [] X.env)) (backToKw pos (keywordEach [] X.env))) := by rfl) :
    SE X W (.Call (.Attribute o m apos) [] [] pos) (fMeth c F ps.length dds fo aNil) := by
  obtain ⟨⟨fd, h1, h2, _⟩, h3⟩ := h
  obtain ⟨ds, v, b⟩ := h2 j hj
  exact se_meth0 (pl := pl) h1 hr tk hc cl hme hnf b ⟨v, hd⟩ ho ht
theorem se_makeD {ci : Nat} (h : DefOk X.prog X.w X.K X.mg X.base k fa ps dvs F) (j : Nat) (hj : j ≤ dvs.length) (hd : ∀ r G, Reps X.K X.mg r G dds (dvs.drop j)) (hr : Room (k + 1) X.A) (tk : Takes X W.w) (hc : X.mg (cName ci) = some (.ref C)) (M : Mk X.K C fa) (hg : Gl X x) (hm : X.mg x = some (.ref C))
    (ha : SA X W (e :: es) g) (hdb : (x == ("__debug__" : Str)) = false := by decide) (he : starEach (e :: es) X.env = (false, eval e X.env) :: starEach es X.env := by rfl) (hpl : (backTo pos (starEach es X.env)).any (·.1) = false := by rfl) :
    SE X W (.Call (.Name x p) (e :: es) [] pos) (fCall (mkF ci F ps.length dds) g) := by
  obtain ⟨⟨fd, h1, h2, _⟩, h3⟩ := h
  obtain ⟨ds, v, b⟩ := h2 j hj
  exact se_make hc M h1 hr tk hg hm b ⟨v, hd⟩ ha hdb he hpl
theorem se_make0D {ci : Nat} (h : DefOk X.prog X.w X.K X.mg X.base k fa ps dvs F) (j : Nat) (hj : j ≤ dvs.length) (hd : ∀ r G, Reps X.K X.mg r G dds (dvs.drop j)) (hr : Room (k + 1) X.A) (tk : Takes X W.w) (hc : X.mg (cName ci) = some (.ref C)) (M : Mk X.K C fa) (hg : Gl X x) (hm : X.mg x = some (.ref C))
    (hdb : (x == ("__debug__" : Str)) = false := by decide) : SE X W (.Call (.Name x p) [] [] pos) (fCall (mkF ci F ps.length dds) aNil) := by
  obtain ⟨⟨fd, h1, h2, _⟩, h3⟩ := h
  obtain ⟨ds, v, b⟩ := h2 j hj
  exact se_make0 hc M h1 hr tk hg hm b ⟨v, hd⟩ hdb
end
/-! a def without defaults; with some -/
section
variable {P : Program} {w : World} {K : PySem.W.Frag} {mg : Str → Option Value} {base : Heap} {x qual : Str} {st : Stmt} {f : Addr} {N ps : List Str} {k : Nat} {g : SF} {dvs : List V}
abbrev BodyOk (P : Program) (w : World) (K : PySem.W.Frag) (mg : Str → Option Value) (base : Heap) (N : List Str) (qual : Str) (st : Stmt) (f : Addr) (k : Nat) (g : SF) : Prop :=
  ∀ (cdv : Value) (A : Around) (outer : List Env) (s : Shared) (H : Hp) (E : XK), Room k (A.deeper (PyProof.Rows.envOfC qual (defScope st) s.heap.objs.size f cdv)) →
      SSs (cxOf (L2.CX P w) P w K mg base N qual (defScope st) f cdv A outer s H E) ⟨fun cls d _ H => E cls d H, none⟩ (defBody st) g
theorem def_ok (F : ∃ fd, FunD K x qual (defArgs st) (defBody st) (defScope st) [] [] f fd) (S : FnScope N ps (defScope st))
    (hb : ∀ (kV doc pm : Value) (an : Option Addr) (cdv ct : Value) (us : List Value), us.length = ps.length → bindArgs (PySem.W.fnOf x qual (defArgs st) (defBody st) (defScope st) .none kV doc pm an cdv ct) ⟨us, []⟩ = pure (ps.zip us))
    (h : BodyOk P w K mg base N qual st f k g) : DefOk P w K mg base (k + 1) f ps [] (fnF N.length g) := by
  obtain ⟨fd, F⟩ := F
  refine ⟨⟨fd, fn_okD F S h, fun j hj => ⟨[], ?_, FunD.bindsN F hb⟩, F.lk⟩, F.kp⟩
  simp
  exact .nil
theorem def_okD (F : ∃ fd, FunD K x qual (defArgs st) (defBody st) (defScope st) dvs [] f fd) (S : FnScope N ps (defScope st)) (hd : dvs ≠ []) (hl : dvs.length ≤ ps.length)
    (hb : ∀ j, j ≤ dvs.length → ∀ (T : Addr) (kV doc pm : Value) (an : Option Addr) (cdv ct : Value) (us its : List Value), us.length = ps.length - (dvs.length - j) → its.length = dvs.length →
      ∃ k, bindArgs (PySem.W.fnOf x qual (defArgs st) (defBody st) (defScope st) (.ref T) kV doc pm an cdv ct) ⟨us, []⟩ = seqItems? (.ref T) >>= k ∧ k (some its.toArray) = pure (ps.zip (us ++ its.drop j)))
    (h : BodyOk P w K mg base N qual st f k g) : DefOk P w K mg base (k + 1) f ps dvs (fnF N.length g) := by
  obtain ⟨fd, F⟩ := F
  exact ⟨⟨fd, fn_okD F S h, fun j hj => FunD.binds1 F (ps.length - (dvs.length - j)) j hd (by omega) (hb j hj), F.lk⟩, F.kp⟩
end
/-! the head's facts: any truth values of the written part -/
abbrev AlS : Type := Bool × List FnW
def obsS (fx : List (PySem.W.Frag → Bool)) (fn : List DefD) (K : PySem.W.Frag) : AlS := ((fx.all fun f => f K) && fn.all fun d => d.ok K, fn.map fun d => fnW K d.at_)
def valS (fn : List DefD) : AlS := (true, fn.map DefD.val)
def obsSG (n : Nat) (fx : List (PySem.W.Frag → Bool)) (fn : List DefD) (g : Addr → Option Obj) : AlS := obsS fx fn (frG g (asD g n))
def hookS (n : Nat) (fx : List (PySem.W.Frag → Bool)) (fn : List DefD) : PySem.W.Hook where
  α := AlS
  obs := fun s => obsSG n fx fn s.heap.get?
  val := fun _ => valS fn
  says := fun _ h => ∃ K : PySem.W.Frag, K.In h ∧ obsS fx fn K = valS fn
  of := fun _ _ e => ⟨_, frG_in, e⟩
  keeps := fun _ _ _ ⟨K, hK, c⟩ k => ⟨K, PySem.W.Frag.In.keeps hK k, c⟩
theorem obsSG_eq {n : Nat} {fx : List (PySem.W.Frag → Bool)} {fn : List DefD} {g : Addr → Option Obj} {s : Shared} (h : ∀ a, g a = s.heap.get? a) : obsSG n fx fn g = (hookS n fx fn).obs s := by
  have e : g = s.heap.get? := funext h
  rw [e]
  rfl
section
variable {fx : List (PySem.W.Frag → Bool)} {fn : List DefD} {K : PySem.W.Frag}
theorem sFact (c : obsS fx fn K = valS fn) (i : Nat) {f : PySem.W.Frag → Bool} (h : fx[i]? = some f := by rfl) : f K = true := by
  have c1 := (Bool.and_eq_true_iff.mp (show ((fx.all fun f => f K) && fn.all fun d => d.ok K) = true from congrArg (fun z : AlS => z.1) c)).1
  exact List.all_eq_true.mp c1 f (List.mem_of_getElem? h)
theorem sDef (c : obsS fx fn K = valS fn) (i : Nat) {d : DefD} (h : fn[i]? = some d := by rfl) : ∃ fd, FunD K d.name d.qual d.params d.body d.scope (d.dvs K) (d.kws K) (fAd K d.at_) fd := by
  have c2 := (Bool.and_eq_true_iff.mp (show ((fx.all fun f => f K) && fn.all fun d => d.ok K) = true from congrArg (fun z : AlS => z.1) c)).2
  have e : fn.map (fun d => fnW K d.at_) = fn.map DefD.val := congrArg (fun z : AlS => z.2) c
  have e2 : (fn.map fun d => fnW K d.at_)[i]? = (fn.map DefD.val)[i]? := by rw [e]
  rw [List.getElem?_map, List.getElem?_map, h] at e2
  exact DefD.funD (Option.some.inj e2) (List.all_eq_true.mp c2 d (List.mem_of_getElem? h))
end
/-! facts as truth values -/
def bGlo (x : Str) (K : PySem.W.Frag) : Bool := (Fa.glo x).ok K
def bFree (x : Str) (K : PySem.W.Frag) : Bool := (Fa.free x).ok K
def bCls (x : Str) (K : PySem.W.Frag) : Bool := (Fa.cls x).ok K
def bNoat (x f : Str) (K : PySem.W.Frag) : Bool := (Fa.noat x f).ok K
def bMeth (x m : Str) (K : PySem.W.Frag) : Bool := (Fa.meth x m).ok K
def bMkr (x : Str) (K : PySem.W.Frag) : Bool := (Fa.mkr x).ok K
def bExc (x : Str) (K : PySem.W.Frag) : Bool := (Fa.exc x).ok K
def bExm (x y : Str) (b : Bool) (K : PySem.W.Frag) : Bool := (Fa.exm x y b).ok K
def bKit (x y : Str) (b : Bool) (K : PySem.W.Frag) : Bool := decide (PySem.W.kitOne K (.ref (ga K x)) (.ref (ga K y)) = some b)
def bKitT (t : String) (y : Str) (b : Bool) (K : PySem.W.Frag) : Bool := decide (PySem.W.kitOne K (.type t) (.ref (ga K y)) = some b)
def bKitU (x : Str) (t : String) (b : Bool) (K : PySem.W.Frag) : Bool := decide (PySem.W.kitOne K (.ref (ga K x)) (.type t) = some b)
def bInsC (x : Str) (K : PySem.W.Frag) : Bool := decide (PySem.W.findIn K (.ref (ga K x)) "__class__" = some (some (.builtin "object.__class__"))) && (decide (PySem.W.specialIn K (.builtin "object.__class__") "__get__" = some (some (.builtin "getset_descriptor.__get__"))) &&
  (decide (PySem.W.takesIn K (.builtin "object.__class__") = some true) && decide (PySem.W.mroIn K (ga K x) (.type "object") = some true)))
def bExcC (x : Str) (K : PySem.W.Frag) : Bool := decide (PySem.W.findIn K (.ref (ga K x)) "__getattribute__" = some (some (.builtin "BaseException.__getattribute__"))) && (decide (PySem.W.findIn K (.ref (ga K x)) "__getattr__" = some none) && (decide (PySem.W.subIn K (.ref (ga K x)) (.type "BaseException") = some true) &&
  (PySem.W.hasDictIn K (ga K x) && bInsC x K)))
section
variable {K : PySem.W.Frag}
theorem kit_ok {x y : Str} {b : Bool} (h : bKit x y b K = true) : PySem.W.kitOne K (.ref (ga K x)) (.ref (ga K y)) = some b := of_decide_eq_true h
theorem kitT_ok {t : String} {y : Str} {b : Bool} (h : bKitT t y b K = true) : PySem.W.kitOne K (.type t) (.ref (ga K y)) = some b := of_decide_eq_true h
theorem kitU_ok {x : Str} {t : String} {b : Bool} (h : bKitU x t b K = true) : PySem.W.kitOne K (.ref (ga K x)) (.type t) = some b := of_decide_eq_true h
theorem insC_ok {x : Str} (c : Cls K (ga K x)) (h : bInsC x K = true) : InsC K (ga K x) := by
  obtain ⟨h1, h⟩ := Bool.and_eq_true_iff.mp h
  obtain ⟨h2, h⟩ := Bool.and_eq_true_iff.mp h
  obtain ⟨h3, h4⟩ := Bool.and_eq_true_iff.mp h
  exact ⟨c, of_decide_eq_true h1, of_decide_eq_true h2, of_decide_eq_true h3, of_decide_eq_true h4⟩
theorem excC_ok {x : Str} (h : bExcC x K = true) : ExcC K (ga K x) := by
  obtain ⟨h1, h⟩ := Bool.and_eq_true_iff.mp h
  obtain ⟨h2, h⟩ := Bool.and_eq_true_iff.mp h
  obtain ⟨h3, h⟩ := Bool.and_eq_true_iff.mp h
  obtain ⟨h4, h⟩ := Bool.and_eq_true_iff.mp h
  obtain ⟨h5, h⟩ := Bool.and_eq_true_iff.mp h
  obtain ⟨h6, h⟩ := Bool.and_eq_true_iff.mp h
  obtain ⟨h7, h8⟩ := Bool.and_eq_true_iff.mp h
  exact ⟨of_decide_eq_true h1, of_decide_eq_true h2, of_decide_eq_true h3, h4, of_decide_eq_true h5, of_decide_eq_true h6, of_decide_eq_true h7, of_decide_eq_true h8⟩
theorem xown_ok {X : Cx} {c : Nat} {x : Str} (hx : xName c = x) (hm : X.mg x = some (.ref (ga X.K x))) (h : bExc x X.K = true) : XOwn X c (ga X.K x) := by
  obtain ⟨h1, h2, h3, h4⟩ := exc_ok h
  exact ⟨by rw [hx]; exact hm, h1, h2, raises_own h3 h4⟩
/-! isinstance with a built-in class -/
def tbl (l : List (String × Bool)) : String → Option Bool := fun t => l.lookup t
theorem tbl_ok {u : Value} : ∀ {l : List (String × Bool)}, (∀ p ∈ l, PySem.W.kitOne K (.type p.1) u = some p.2) → ∀ t b, tbl l t = some b → PySem.W.kitOne K (.type t) u = some b
  | [], _, t, b, e => by simp [tbl] at e
  | (t', b') :: l, h, t, b, e => by
    unfold tbl at e
    rw [List.lookup_cons] at e
    by_cases z : t = t'
    · subst z
      simp at e
      subst e
      exact h _ List.mem_cons_self
    · have : (t == t') = false := by simpa using z
      rw [this] at e
      exact tbl_ok (fun p hp => h p (List.mem_cons_of_mem _ hp)) t b e
def tInt : List (String × Bool) := [("int", true), ("bool", true), ("NoneType", false), ("str", false), ("tuple", false), ("list", false), ("dict", false)]
def tBool : List (String × Bool) := [("int", false), ("bool", true), ("NoneType", false), ("str", false), ("tuple", false), ("list", false), ("dict", false)]
def tStr : List (String × Bool) := [("int", false), ("bool", false), ("NoneType", false), ("str", true), ("tuple", false), ("list", false), ("dict", false)]
def tTuple : List (String × Bool) := [("int", false), ("bool", false), ("NoneType", false), ("str", false), ("tuple", true), ("list", false), ("dict", false)]
def tList : List (String × Bool) := [("int", false), ("bool", false), ("NoneType", false), ("str", false), ("tuple", false), ("list", true), ("dict", false)]
def tOwn : List (String × Bool) := [("int", false), ("bool", false), ("NoneType", false), ("str", false), ("tuple", false), ("list", false), ("dict", false)]
theorem tInt_ok : ∀ t b, tbl tInt t = some b → PySem.W.kitOne K (.type t) (.type "int") = some b := tbl_ok (by
  intro p hp
  simp [tInt] at hp
  rcases hp with h | h | h | h | h | h | h <;> (subst h; exact kit_ty (by decide +kernel)))
theorem tBool_ok : ∀ t b, tbl tBool t = some b → PySem.W.kitOne K (.type t) (.type "bool") = some b := tbl_ok (by
  intro p hp
  simp [tBool] at hp
  rcases hp with h | h | h | h | h | h | h <;> (subst h; exact kit_ty (by decide +kernel)))
theorem tStr_ok : ∀ t b, tbl tStr t = some b → PySem.W.kitOne K (.type t) (.type "str") = some b := tbl_ok (by
  intro p hp
  simp [tStr] at hp
  rcases hp with h | h | h | h | h | h | h <;> (subst h; exact kit_ty (by decide +kernel)))
theorem tTuple_ok : ∀ t b, tbl tTuple t = some b → PySem.W.kitOne K (.type t) (.type "tuple") = some b := tbl_ok (by
  intro p hp
  simp [tTuple] at hp
  rcases hp with h | h | h | h | h | h | h <;> (subst h; exact kit_ty (by decide +kernel)))
theorem tList_ok : ∀ t b, tbl tList t = some b → PySem.W.kitOne K (.type t) (.type "list") = some b := tbl_ok (by
  intro p hp
  simp [tList] at hp
  rcases hp with h | h | h | h | h | h | h <;> (subst h; exact kit_ty (by decide +kernel)))
def bOwn (y : Str) (K : PySem.W.Frag) : Bool := tOwn.all fun p => bKitT p.1 y p.2 K
theorem tOwn_ok {y : Str} (h : bOwn y K = true) : ∀ t b, tbl tOwn t = some b → PySem.W.kitOne K (.type t) (.ref (ga K y)) = some b := tbl_ok fun p hp => kitT_ok (List.all_eq_true.mp h p hp)
end
/-! the same with three names -/
section
variable {X : Cx} {W : We} {a b c : Expr} {g : AF} {pos : Pos}
@[simp] def sPar3 (i j l : Nat) (g : AF) : SF := fun sg st => (g sg st).flw sg fun ds st1 => match ds with
  | [d, d', d''] => .nx (((sg.set i (some d)).set j (some d')).set l (some d'')) st1
  | _ => .bad
theorem ss_par3 {i j l : Nat} {x y z : Str} {px py pz pt : Pos} {kt k2 pt2} (hc : X.calm = true) (hN : X.N.Nodup) (hi : X.N[i]? = some x) (hj : X.N[j]? = some y) (hl : X.N[l]? = some z) (hij : i ≠ j) (hil : i ≠ l) (hjl : j ≠ l)
    (hx : X.env.scope.names.lookup x = some .local) (hy : X.env.scope.names.lookup y = some .local) (hz : X.env.scope.names.lookup z = some .local) (ha : SA X W [a, b, c] g)
    (hw : swappedStores [.Tuple [.Name x px, .Name y py, .Name z pz] kt pt] (.Tuple [a, b, c] k2 pt2) X.env = pure (some [x, y, z]))
    (hs : swapsWithSole [.Tuple [.Name x px, .Name y py, .Name z pz] kt pt] (.Tuple [a, b, c] k2 pt2) pos.line X.env = pure false := by rfl) : SS X W (.Assign [.Tuple [.Name x px, .Name y py, .Name z pz] kt pt] (.Tuple [a, b, c] k2 pt2) pos) (sPar3 i j l g) :=
  ps_weak (ps_par3 hc hN hi hj hl hij hil hjl hx hy hz ha hw hs) fun D σ H ⟨m, sg, st, e, rm, rs, hp⟩ => ⟨m, sg, st, e, rm, rs, flwc hp rs fun m1 ds vs st1 e1 r1 q1 hp1 => by
    split at hp1
    · cases q1 with
      | cons h1 q1 =>
        obtain ⟨v, w, rfl, h2, h3⟩ := reps2 (X := X) q1
        exact ⟨_, v, w, rfl, hp1 m1 _ (Ext.refl _) r1 ((((rs.mono e1).set i (.inl h1)).set j (.inl h2)).set l (.inl h3))⟩
    · exact False.elim hp1⟩
theorem se_edict {x : Expr} (h : PE X x (fun _ H Q => ∀ d, H d = none → Q (.ref d) (upd H d (.dK [])))) : SE X W x (fC .edict) := pe_weak h fun σ H Q ⟨m, sg, st, e, rm, rs, hp⟩ => by
  subst e
  exact hp.lay (α := D) rm fun p hn => .edict upd_same
end
end Sh
/-! Part I: the law's end. -/
namespace Sh
open PySem L2 He
section
variable {P : Program} {w : World} {K : PySem.W.Frag} {mg : Str → Option Value} {base : Heap}
theorem fn_cx0 {f : Addr} {fd : FuncData} {k : Nat} {ps : List Str} {sp : Sp} (h : FnOk P w K mg base (L2.CX P w) k f fd ps sp) (hE : ∀ vs H Q E, sp vs H Q E → sp vs H Q fun _ _ _ => False) : FnOk P w K mg base CX0 k f fd ps sp :=
  ⟨h.len, fun A outer s H args us vs Q E hr e0 b v q => codeAny_mono (h.run A outer s H args us vs Q (fun _ _ _ => False) hr e0 b v (hE _ _ _ _ q)) fun r s' z => by
    cases r with
    | error e =>
      obtain ⟨a, B, H', cls, d, _, _, _, _, _, _, _, hz⟩ := z
      exact hz.elim
    | ok g => cases g <;> exact z⟩
def spLaw (K : PySem.W.Frag) : Sp := fun vs H Q _ => ∃ (a : Addr) (ns : List Int), vs = [.ref a] ∧ SqL K H a (ns.map V.int) ∧ ns.length ≤ 63 ∧ ∀ H', Q (.bl true) H'
/-- the law's def, as the end wants it -/
theorem law_facts {x y : Str} {st : Stmt} {N : List Str} {k : Nat} {g : SF} (FD : ∃ fd, FunD K x x (defArgs st) (defBody st) (defScope st) [] [] (ga K x) fd) (S : FnScope N [y] (defScope st))
    (h : ∀ base : Heap, BodyOk P w K mg base N x st (ga K x) k g) (ht : ∀ l : List Int, l.length ≤ 63 → ∃ st, fnF N.length g [.scr l] [] = .ok (.bl true) st)
    (hb : ∀ (kV doc pm : Value) (an : Option Addr) (cdv ct : Value) (us : List Value), us.length = [y].length → bindArgs (PySem.W.fnOf x x (defArgs st) (defBody st) (defScope st) .none kV doc pm an cdv ct) ⟨us, []⟩ = pure ([y].zip us)) :
    ∃ fd : FuncData, (∀ (s : Shared) (v : Value), BindsTo s fd ⟨[v], []⟩ [(y, v)]) ∧ ∀ base : Heap, FnOk P w K mg base CX0 (k + 1) (ga K x) fd [y] (spLaw K) := by
  obtain ⟨fd, FD⟩ := FD
  exact ⟨fd, fun s v => FunD.bindsA FD hb s [v] rfl, fun base => fn_cx0 (law_ok (fn_okD FD S (h base)) ht) fun _ _ _ _ z => z⟩
end
end Sh
/-! Part J: what the meanings compute: rules to rewrite with, loops. -/
namespace Sh
open PySem L2
@[simp] theorem ev_fnF : type_of% @fnF.eq_def := @fnF.eq_def
@[simp] theorem ev_cF : type_of% @cF.eq_def := @cF.eq_def
@[simp] theorem ev_lenOf : type_of% @lenOf.eq_def := @lenOf.eq_def
@[simp] theorem ev_bLen : type_of% @bLen.eq_def := @bLen.eq_def
@[simp] theorem ev_bAbs : type_of% @bAbs.eq_def := @bAbs.eq_def
@[simp] theorem ev_bMax : type_of% @bMax.eq_def := @bMax.eq_def
@[simp] theorem ev_bMin : type_of% @bMin.eq_def := @bMin.eq_def
@[simp] theorem ev_bInt : type_of% @bInt.eq_def := @bInt.eq_def
@[simp] theorem ev_tyD : type_of% @tyD.eq_def := @tyD.eq_def
@[simp] theorem ev_clsD : type_of% @clsD.eq_def := @clsD.eq_def
@[simp] theorem ev_insOf : type_of% @insOf.eq_def := @insOf.eq_def
@[simp] theorem ev_dAdd : type_of% @dAdd.eq_def := @dAdd.eq_def
@[simp] theorem ev_dSub : type_of% @dSub.eq_def := @dSub.eq_def
@[simp] theorem ev_dMul : type_of% @dMul.eq_def := @dMul.eq_def
@[simp] theorem ev_dDiv : type_of% @dDiv.eq_def := @dDiv.eq_def
@[simp] theorem ev_dMod : type_of% @dMod.eq_def := @dMod.eq_def
@[simp] theorem ev_dPow : type_of% @dPow.eq_def := @dPow.eq_def
@[simp] theorem ev_dNeg : type_of% @dNeg.eq_def := @dNeg.eq_def
@[simp] theorem ev_dCmpI : type_of% @dCmpI.eq_def := @dCmpI.eq_def
@[simp] theorem ev_dIsN : type_of% @dIsN.eq_def := @dIsN.eq_def
@[simp] theorem ev_dNotN : type_of% @dNotN.eq_def := @dNotN.eq_def
@[simp] theorem ev_dTru : type_of% @dTru.eq_def := @dTru.eq_def
@[simp] theorem ev_itemsOf : type_of% @itemsOf.eq_def := @itemsOf.eq_def
@[simp] theorem ev_dAt : type_of% @dAt.eq_def := @dAt.eq_def
@[simp] theorem ev_dIx : type_of% @dIx.eq_def := @dIx.eq_def
@[simp] theorem ev_stSet : type_of% @stSet.eq_def := @stSet.eq_def
@[simp] theorem ev_rSub : type_of% @rSub.eq_def := @rSub.eq_def
@[simp] theorem ev_stFld : type_of% @stFld.eq_def := @stFld.eq_def
@[simp] theorem ev_rFldS : type_of% @rFldS.eq_def := @rFldS.eq_def
@[simp] theorem ev_ixN : type_of% @ixN.eq_def := @ixN.eq_def
theorem dEq_ok {x y x' y' : D} {st : Sto} (h : eqOk x' y' = true) (hx : resD st x = x' := by rfl) (hy : resD st y = y' := by rfl) : dEq x y st = .ok (.bl (dEqv x' y')) st := by subst hx; subst hy; exact if_pos h
theorem dNe_ok {x y x' y' : D} {st : Sto} (h : eqOk x' y' = true) (hx : resD st x = x' := by rfl) (hy : resD st y = y' := by rfl) : dNe x y st = .ok (.bl (!dEqv x' y')) st := by subst hx; subst hy; exact if_pos h
@[simp] theorem dEq_ii (i j : Int) (st : Sto) : dEq (.int i) (.int j) st = .ok (.bl (decide (i = j))) st := by
  have h : eqOk (.int i) (.int j) = true := rfl
  rw [dEq_ok h]
  rfl
@[simp] theorem dNe_ii (i j : Int) (st : Sto) : dNe (.int i) (.int j) st = .ok (.bl (!decide (i = j))) st := by
  have h : eqOk (.int i) (.int j) = true := rfl
  rw [dNe_ok h]
  rfl
@[simp] theorem dEq_t3 (a b c d e f : Int) (st : Sto) : dEq (.tup [.int a, .int b, .int c]) (.tup [.int d, .int e, .int f]) st = .ok (.bl (decide (a = d) && (decide (b = e) && decide (c = f)))) st := by
  have h : eqOk (.tup [.int a, .int b, .int c]) (.tup [.int d, .int e, .int f]) = true := rfl
  rw [dEq_ok h]
  have z : ∀ x y : Int, (x == y) = decide (x = y) := fun _ _ => rfl
  simp [z]
@[simp] theorem dNe_t3 (a b c d e f : Int) (st : Sto) : dNe (.tup [.int a, .int b, .int c]) (.tup [.int d, .int e, .int f]) st = .ok (.bl !(decide (a = d) && (decide (b = e) && decide (c = f)))) st := by
  have h : eqOk (.tup [.int a, .int b, .int c]) (.tup [.int d, .int e, .int f]) = true := rfl
  rw [dNe_ok h]
  have z : ∀ x y : Int, (x == y) = decide (x = y) := fun _ _ => rfl
  simp [z]
/-! isinstance by cases -/
@[simp] theorem isi_int (i : Int) (cl : List (Nat × Bool)) (st : Sto) : bIsi (tbl tInt) cl (.int i) st = .ok (.bl true) st ∧ bIsi (tbl tBool) cl (.int i) st = .ok (.bl false) st ∧ bIsi (tbl tStr) cl (.int i) st = .ok (.bl false) st ∧ bIsi (tbl tTuple) cl (.int i) st = .ok (.bl false) st ∧ bIsi (tbl tList) cl (.int i) st = .ok (.bl false) st ∧ bIsi (tbl tOwn) cl (.int i) st = .ok (.bl false) st := ⟨rfl, rfl, rfl, rfl, rfl, rfl⟩
@[simp] theorem isi_bl (i : Bool) (cl : List (Nat × Bool)) (st : Sto) : bIsi (tbl tInt) cl (.bl i) st = .ok (.bl true) st ∧ bIsi (tbl tBool) cl (.bl i) st = .ok (.bl true) st ∧ bIsi (tbl tStr) cl (.bl i) st = .ok (.bl false) st ∧ bIsi (tbl tTuple) cl (.bl i) st = .ok (.bl false) st ∧ bIsi (tbl tList) cl (.bl i) st = .ok (.bl false) st ∧ bIsi (tbl tOwn) cl (.bl i) st = .ok (.bl false) st := ⟨rfl, rfl, rfl, rfl, rfl, rfl⟩
@[simp] theorem isi_non (cl : List (Nat × Bool)) (st : Sto) : bIsi (tbl tInt) cl .non st = .ok (.bl false) st ∧ bIsi (tbl tBool) cl .non st = .ok (.bl false) st ∧ bIsi (tbl tStr) cl .non st = .ok (.bl false) st ∧ bIsi (tbl tTuple) cl .non st = .ok (.bl false) st ∧ bIsi (tbl tList) cl .non st = .ok (.bl false) st ∧ bIsi (tbl tOwn) cl .non st = .ok (.bl false) st := ⟨rfl, rfl, rfl, rfl, rfl, rfl⟩
@[simp] theorem isi_str (i : Str) (cl : List (Nat × Bool)) (st : Sto) : bIsi (tbl tInt) cl (.str i) st = .ok (.bl false) st ∧ bIsi (tbl tBool) cl (.str i) st = .ok (.bl false) st ∧ bIsi (tbl tStr) cl (.str i) st = .ok (.bl true) st ∧ bIsi (tbl tTuple) cl (.str i) st = .ok (.bl false) st ∧ bIsi (tbl tList) cl (.str i) st = .ok (.bl false) st ∧ bIsi (tbl tOwn) cl (.str i) st = .ok (.bl false) st := ⟨rfl, rfl, rfl, rfl, rfl, rfl⟩
@[simp] theorem isi_tup (i : List D) (cl : List (Nat × Bool)) (st : Sto) : bIsi (tbl tInt) cl (.tup i) st = .ok (.bl false) st ∧ bIsi (tbl tBool) cl (.tup i) st = .ok (.bl false) st ∧ bIsi (tbl tStr) cl (.tup i) st = .ok (.bl false) st ∧ bIsi (tbl tTuple) cl (.tup i) st = .ok (.bl true) st ∧ bIsi (tbl tList) cl (.tup i) st = .ok (.bl false) st ∧ bIsi (tbl tOwn) cl (.tup i) st = .ok (.bl false) st := ⟨rfl, rfl, rfl, rfl, rfl, rfl⟩
@[simp] theorem isi_lst (i : List D) (cl : List (Nat × Bool)) (st : Sto) : bIsi (tbl tInt) cl (.lst i) st = .ok (.bl false) st ∧ bIsi (tbl tBool) cl (.lst i) st = .ok (.bl false) st ∧ bIsi (tbl tStr) cl (.lst i) st = .ok (.bl false) st ∧ bIsi (tbl tTuple) cl (.lst i) st = .ok (.bl false) st ∧ bIsi (tbl tList) cl (.lst i) st = .ok (.bl true) st ∧ bIsi (tbl tOwn) cl (.lst i) st = .ok (.bl false) st := ⟨rfl, rfl, rfl, rfl, rfl, rfl⟩
@[simp] theorem isi_ed (cl : List (Nat × Bool)) (st : Sto) : bIsi (tbl tInt) cl .edict st = .ok (.bl false) st ∧ bIsi (tbl tBool) cl .edict st = .ok (.bl false) st ∧ bIsi (tbl tStr) cl .edict st = .ok (.bl false) st ∧ bIsi (tbl tTuple) cl .edict st = .ok (.bl false) st ∧ bIsi (tbl tList) cl .edict st = .ok (.bl false) st ∧ bIsi (tbl tOwn) cl .edict st = .ok (.bl false) st := ⟨rfl, rfl, rfl, rfl, rfl, rfl⟩
@[simp] theorem isi_ins (tb : String → Option Bool) (c : Nat) (l : List D) (cl : List (Nat × Bool)) (st : Sto) : bIsi tb cl (.ins c l) st = match cl.lookup c with
  | some b => .ok (.bl b) st
  | none => .bad := rfl
theorem dMulI {i j : Int} {st : Sto} (h : mulOk i j) : dMul (.int i) (.int j) st = .ok (.int (i * j)) st := by simp [h]
theorem dDivI {i j : Int} {st : Sto} (h : 0 < j) (h2 : divOk j) : dDiv (.int i) (.int j) st = .ok (.int (i / j)) st := by simp [h, h2]
theorem dModI {i j : Int} {st : Sto} (h : 0 < j) : dMod (.int i) (.int j) st = .ok (.int (i % j)) st := by simp [h]
theorem dPowI {i j : Int} {st : Sto} (h : powOk i j) : dPow (.int i) (.int j) st = .ok (.int (i ^ j.toNat)) st := by simp [h]
theorem nat_lt_pow {i : Int} {n : Nat} (h0 : 0 ≤ i) (h : i < 2 ^ n) : i.natAbs < 2 ^ n := by
  have e : ((i.natAbs : Nat) : Int) = i := Int.natAbs_of_nonneg h0
  have : ((i.natAbs : Nat) : Int) < ((2 ^ n : Nat) : Int) := by rw [e]; simpa using h
  exact_mod_cast this
theorem abs_lt_pow {i : Int} {n : Nat} (h0 : -(2 ^ n) < i) (h : i < 2 ^ n) : i.natAbs < 2 ^ n := by
  rcases Int.le_total 0 i with z | z
  · exact nat_lt_pow z h
  · have := nat_lt_pow (i := -i) (n := n) (by omega) (by omega)
    simpa using this
theorem powOk_of {i : Int} {j n : Nat} (h : i.natAbs < 2 ^ n) (hn : 0 < n) (hj : n * j ≤ 2 ^ 27) : powOk i j := by
  have y := log2_lt' h hn
  refine ⟨Int.natCast_nonneg j, ?_⟩
  have : (i.natAbs.log2 + 1) * j ≤ n * j := Nat.mul_le_mul_right _ (by omega)
  have h2 : (i.natAbs.log2 + 1) * j ≤ 2 ^ 27 := by omega
  have h3 : (((i.natAbs.log2 + 1) * j : Nat) : Int) ≤ ((2 ^ 27 : Nat) : Int) := Int.ofNat_le.mpr h2
  simpa using h3
/-! loops -/
@[simp] theorem dEq_t2 (a b d e : Int) (st : Sto) : dEq (.tup [.int a, .int b]) (.tup [.int d, .int e]) st = .ok (.bl (decide (a = d) && decide (b = e))) st := by
  have h : eqOk (.tup [.int a, .int b]) (.tup [.int d, .int e]) = true := rfl
  rw [dEq_ok h]
  have z : ∀ x y : Int, (x == y) = decide (x = y) := fun _ _ => rfl
  simp [z]
@[simp] theorem dNe_nil (st : Sto) : dNe (.lst []) (.lst []) st = .ok (.bl false) st := by
  have h : eqOk (.lst []) (.lst []) = true := rfl
  rw [dNe_ok h]
  rfl
/-! sizes -/
def Bd (n : Nat) (x : Int) : Prop := x.natAbs < 2 ^ n
theorem Bd.mono {n m : Nat} {x : Int} (h : Bd n x) (e : n ≤ m) : Bd m x := Nat.lt_of_lt_of_le h (Nat.pow_le_pow_right (by decide) e)
theorem Bd.add {n m : Nat} {x y : Int} (h : Bd n x) (k : Bd m y) : Bd (n + m + 1) (x + y) := by
  have h1 := h.mono (show n ≤ n + m by omega)
  have k1 := k.mono (show m ≤ n + m by omega)
  unfold Bd at *
  have : (x + y).natAbs ≤ x.natAbs + y.natAbs := Int.natAbs_add_le x y
  rw [Nat.pow_succ]; omega
theorem Bd.neg {n : Nat} {x : Int} (h : Bd n x) : Bd n (-x) := by unfold Bd at *; rwa [Int.natAbs_neg]
theorem Bd.sub {n m : Nat} {x y : Int} (h : Bd n x) (k : Bd m y) : Bd (n + m + 1) (x - y) := by rw [Int.sub_eq_add_neg]; exact h.add k.neg
theorem Bd.mul {n m : Nat} {x y : Int} (h : Bd n x) (k : Bd m y) : Bd (n + m) (x * y) := by
  unfold Bd at *
  rw [Int.natAbs_mul, Nat.pow_add]
  exact Nat.mul_lt_mul'' h k
theorem Bd.of {n : Nat} {x : Int} (h : -(2 ^ n) < x) (k : x < 2 ^ n) : Bd n x := abs_lt_pow h k
theorem Bd.fac {n : Nat} {g x y : Int} (h : Bd n x) (hg : 0 < g) (e : x = g * y) : Bd n y := by
  unfold Bd at *
  rw [e, Int.natAbs_mul] at h
  have : 1 ≤ g.natAbs := by omega
  exact Nat.lt_of_le_of_lt (Nat.le_mul_of_pos_left _ this) h
theorem Bd.mulOk {n m : Nat} {x y : Int} (h : Bd n x) (k : Bd m y) (e : n + m ≤ 100000 := by decide) : Sh.mulOk x y :=
  mulOk_of (h.mono (Nat.le_succ n)) (k.mono (Nat.le_succ m)) (Nat.succ_pos _) (Nat.succ_pos _) (by omega)
theorem Bd.divOk {n : Nat} {x : Int} (h : Bd n x) (e : n ≤ 8000 := by decide) : Sh.divOk x := divOk_of (h.mono (Nat.le_succ n)) (Nat.succ_pos _) (by omega)
/-! comprehensions -/
theorem lc_keep {ck : Sto → Prop} {t : Tg} {c : TF} {f : EF} {sg : Sg} {st : Sto} (keep : D → Option D) (hc : ck st) : ∀ l : List D,
    (∀ d ∈ l, ∃ sg1, setT t d sg = some sg1 ∧ ((c sg1 st = .ok false st ∧ keep d = none) ∨ (c sg1 st = .ok true st ∧ ∃ y, f sg1 st = .ok y st ∧ keep d = some y))) → lcF ck t c f sg l st = .ok (l.filterMap keep) st
  | [], _ => by unfold lcF; rw [if_pos hc]; rfl
  | d :: l, h => by
    have ih := lc_keep (c := c) (f := f) (sg := sg) keep hc l fun x hx => h x (List.mem_cons_of_mem _ hx)
    obtain ⟨sg1, e1, e2⟩ := h d List.mem_cons_self
    unfold lcF
    rw [if_pos hc, e1]
    rcases e2 with ⟨e2, e3⟩ | ⟨e2, y, e3, e4⟩
    · simp [e2, e3, ih]
    · simp [e2, e3, e4, ih]
theorem for_nil {ck : Sto → Prop} {t : Tg} {g : SF} {sg : Sg} {st : Sto} (h : ck st) : forF ck t g [] sg st = .nx sg st := by simp [forF, h]
theorem for_cons {ck : Sto → Prop} {t : Tg} {g : SF} {d : D} {l : List D} {sg sg1 : Sg} {st : Sto} (h : ck st) (e : setT t d sg = some sg1) : forF ck t g (d :: l) sg st = (g sg1 st).loop (forF ck t g l) := by
  conv => lhs; unfold forF
  rw [if_pos h, e]
/-- a loop that runs to its end; J i: what holds ahead of turn i -/
theorem for_run {ck : Sto → Prop} {t : Tg} {g : SF} : ∀ (l : List D) (J : Nat → Sg → Sto → Prop) (sg : Sg) (st : Sto), J 0 sg st → (∀ i sg st, J i sg st → ck st) →
    (∀ i d sg st, l[i]? = some d → J i sg st → ∃ sg1, setT t d sg = some sg1 ∧ ∃ sg' st', (g sg1 st = .nx sg' st' ∨ g sg1 st = .cnt sg' st') ∧ J (i + 1) sg' st') →
    ∃ sg' st', forF ck t g l sg st = .nx sg' st' ∧ J l.length sg' st'
  | [], J, sg, st, h0, hc, hs => ⟨sg, st, for_nil (hc _ _ _ h0), h0⟩
  | d :: l, J, sg, st, h0, hc, hs => by
    obtain ⟨sg1, e1, sg', st', e2, j1⟩ := hs 0 d sg st rfl h0
    obtain ⟨sg2, st2, e3, j2⟩ := for_run l (fun i => J (i + 1)) sg' st' j1 (fun i sg st z => hc _ _ _ z) fun i d sg st q z => hs (i + 1) d sg st (by simpa using q) z
    refine ⟨sg2, st2, ?_, j2⟩
    rw [for_cons (hc _ _ _ h0) e1]
    rcases e2 with e2 | e2 <;> rw [e2] <;> exact e3
/-- one thing stays true, whatever the turn -/
theorem for_all {ck : Sto → Prop} {t : Tg} {g : SF} {l : List D} {sg : Sg} {st : Sto} (I : Sg → Sto → Prop) (h0 : I sg st) (hc : ∀ sg st, I sg st → ck st)
    (hs : ∀ d sg st, d ∈ l → I sg st → ∃ sg1, setT t d sg = some sg1 ∧ ∃ sg' st', (g sg1 st = .nx sg' st' ∨ g sg1 st = .cnt sg' st') ∧ I sg' st') :
    ∃ sg' st', forF ck t g l sg st = .nx sg' st' ∧ I sg' st' :=
  for_run l (fun _ => I) sg st h0 (fun _ => hc) fun i d sg st q z => hs d sg st (List.mem_of_getElem? q) z
/-- where a body comes to its end, or goes on -/
def Flw.to (P : Sg → Sto → Prop) : Flw → Prop
  | .nx sg st => P sg st
  | .cnt sg st => P sg st
  | _ => False
@[simp] theorem to_nx {P : Sg → Sto → Prop} {sg : Sg} {st : Sto} : (Flw.nx sg st).to P = P sg st := rfl
@[simp] theorem to_cnt {P : Sg → Sto → Prop} {sg : Sg} {st : Sto} : (Flw.cnt sg st).to P = P sg st := rfl
theorem to_cg {x y : Flw} {P : Sg → Sto → Prop} (h : x = y) : x.to P = y.to P := by rw [h]
theorem to_of {P : Sg → Sto → Prop} {f : Flw} (h : f.to P) : ∃ sg' st', (f = .nx sg' st' ∨ f = .cnt sg' st') ∧ P sg' st' := by
  cases f with
  | nx sg st => exact ⟨sg, st, .inl rfl, h⟩
  | cnt sg st => exact ⟨sg, st, .inr rfl, h⟩
  | _ => exact h.elim
theorem for_to {ck : Sto → Prop} {t : Tg} {g : SF} {l : List D} {sg : Sg} {st : Sto} (I : Sg → Sto → Prop) (h0 : I sg st) (hc : ∀ sg st, I sg st → ck st)
    (hs : ∀ d sg st, d ∈ l → I sg st → ∃ sg1, setT t d sg = some sg1 ∧ (g sg1 st).to I) : ∃ sg' st', forF ck t g l sg st = .nx sg' st' ∧ I sg' st' :=
  for_all I h0 hc fun d sg st hd hi => let ⟨sg1, e, h⟩ := hs d sg st hd hi; ⟨sg1, e, to_of h⟩
theorem for_toN {ck : Sto → Prop} {t : Tg} {g : SF} {l : List D} {sg : Sg} {st : Sto} (J : Nat → Sg → Sto → Prop) (h0 : J 0 sg st) (hc : ∀ i sg st, J i sg st → ck st)
    (hs : ∀ i d sg st, l[i]? = some d → J i sg st → ∃ sg1, setT t d sg = some sg1 ∧ (g sg1 st).to (J (i + 1))) : ∃ sg' st', forF ck t g l sg st = .nx sg' st' ∧ J l.length sg' st' :=
  for_run l J sg st h0 hc fun i d sg st hd hi => let ⟨sg1, e, h⟩ := hs i d sg st hd hi; ⟨sg1, e, to_of h⟩
theorem wh_step {t : TF} {g : SF} {n : Nat} {sg : Sg} {st : Sto} : whF t g (n + 1) sg st = (t sg st).flw sg fun b st1 => if b = true then (g sg st1).loop (whF t g n) else .nx sg st1 := rfl
theorem fuel_big : 2 ^ 4000 ≤ fuel := by unfold fuel; exact Nat.le_refl _
theorem fuel_eq {m : Nat} (h : m ≤ 2 ^ 4000) : ∃ n, fuel = m + n := ⟨fuel - m, by have := fuel_big; omega⟩
theorem mem_rng {lo : Int} {n : Nat} {d : D} (h : d ∈ rngD lo n) : ∃ i : Nat, i < n ∧ d = .int (lo + i) := by
  unfold rngD at h
  obtain ⟨i, h1, h2⟩ := List.mem_map.mp h
  exact ⟨i, by simpa using h1, h2.symm⟩
/-- the turns of a law's own loop -/
theorem law_rng {l : List Int} {n : Int} {sg : Sg} {st : Sto} (h : sg[0]? = some (some (.scr l))) (hn : 1 ≤ n) (hn2 : n ≤ 64) : ∃ m : Nat, (m : Int) ≤ n ∧
    iRange1 (aCons (fCall bMax (aCons (fC (.int 1)) (aCons (fCall bMin (aCons (fC (.int n)) (aCons (fCall bLen (aCons (fVar 0) aNil)) aNil))) aNil))) aNil) sg st = .ok ⟨rngD 0 m, fun _ => True⟩ st := by
  generalize hm : (if (1 : Int) < (if (l.length : Int) < n then (l.length : Int) else n) then (if (l.length : Int) < n then (l.length : Int) else n) else 1) = m
  have hm1 : 1 ≤ m ∧ m ≤ n := by rw [← hm]; split <;> split <;> omega
  refine ⟨m.toNat, by omega, ?_⟩
  simp -implicitDefEqProofs [h, hm]
  omega
end Sh
/-! Part K: operators that a class defines; keywords. -/
namespace Sh
open PySem L2 He
/-- what a two-place operation means, the wish of the slots within -/
def BinS (X : Cx) (W : We) (f : Value → Value → Sem Value) (sem : D → D → Sto → Res D) : Prop :=
  ∀ (pins : List (Addr × Obj)) (s : Shared) (σ : St) (m : Hw) (st : Sto) (x y : D) (xv yv : V) (v u : Value) (Q : VK), Inv X pins σ m.h s → RelV xv v → RelV yv u → Rel X.K X.mg m st → Rep X.K X.mg m.r m.g x xv → Rep X.K X.mg m.r m.g y yv →
    Post X.K X.mg W.w m σ (RD X.K X.mg) Q (sem x y st) → wpAny (model X.prog X.w) X.A (f v u) (EP X pins σ Q) X.xe s
def UnS (X : Cx) (W : We) (f : Value → Sem Value) (sem : D → Sto → Res D) : Prop :=
  ∀ (pins : List (Addr × Obj)) (s : Shared) (σ : St) (m : Hw) (st : Sto) (x : D) (xv : V) (v : Value) (Q : VK), Inv X pins σ m.h s → RelV xv v → Rel X.K X.mg m st → Rep X.K X.mg m.r m.g x xv →
    Post X.K X.mg W.w m σ (RD X.K X.mg) Q (sem x st) → wpAny (model X.prog X.w) X.A (f v) (EP X pins σ Q) X.xe s
section
variable {X : Cx} {W : We} {a b : Expr} {fa fb : EF} {pos : Pos} {sem base : D → D → Sto → Res D} {sem1 base1 : D → Sto → Res D} {f : Value → Value → Sem Value} {k c : Nat} {g C : Addr} {F : FF} {ps : List Str} {m : Str}
theorem BinS.of {r : R2} (ho : OpR X f r) (hs : Fits2 X W r sem) : BinS X W f sem := fun pins s σ m st x y xv yv v u Q I rx ry rm qx qy hp => ho pins s σ m.h xv yv v u Q I rx ry (hs m st σ x y xv yv Q rm qx qy hp)
theorem UnS.of {f : Value → Sem Value} {r : V → Hp → VK → Prop} (ho : UnR X f r) (hs : Fits1 X W r sem1) : UnS X W f sem1 := fun pins s σ m st x xv v Q I rx rm qx hp => ho pins s σ m.h xv v Q I rx (hs m st σ x xv Q rm qx hp)
/-- both sides, then what is done with them -/
theorem bin_of (h : BinS X W f sem) (ha : SE X W a fa) (hb : SE X W b fb) {pins : List (Addr × Obj)} {s : Shared} {σ : St} {H : Hp} {Q : VK} (I : Inv X pins σ H s) (t : TOf X.K X.mg W (RD X.K X.mg) (fBin sem fa fb) σ H Q) :
    wpAny (model X.prog X.w) X.A (eval a X.env) (fun v s₁ => wpAny (model X.prog X.w) X.A (eval b X.env) (fun u s₂ => wpAny (model X.prog X.w) X.A (f v u) (EP X pins σ Q) X.xe s₂) X.xe s₁) X.xe s := by
  obtain ⟨w, sg, st, rfl, rm, rs, hp⟩ := t
  refine thn (ha.run pins s σ w.h (MPost X W σ sg Q fun x st1 => (fb sg st1).bind fun y st2 => sem x y st2) I ⟨w, sg, st, rfl, rm, rs, hp.bindc fun m1 x v st1 e1 r1 q1 hp1 => ⟨m1, x, st1, rfl, r1, rs.mono e1, q1, hp1⟩⟩) fun u s1 hh => ?_
  obtain ⟨v, H1, I1, rv, m1, x, st1, rfl, r1, rs1, q1, hp1⟩ := hh
  refine thn (hb.run pins s1 σ m1.h (fun v2 H2 => ∃ m2 y st2, m2.h = H2 ∧ Ext m1 m2 ∧ Rel X.K X.mg m2 st2 ∧ Rep X.K X.mg m2.r m2.g y v2 ∧ Post X.K X.mg W.w m2 σ (RD X.K X.mg) Q (sem x y st2)) I1
    ⟨m1, sg, st1, rfl, r1, rs1, hp1.bindc fun m2 y v2 st2 e2 r2 q2 hp2 => ⟨m2, y, st2, rfl, e2, r2, q2, hp2⟩⟩) fun u2 s2 hz => ?_
  obtain ⟨v2, H2, I2, rv2, m2, y, st2, rfl, e2, r2, q2, hp2⟩ := hz
  exact h pins s2 σ m2 st2 x y v v2 u u2 Q I2 rv rv2 r2 (q1.mono e2) q2 hp2
theorem se_binS {op : Operator} (h : BinS X W (binaryOp op) sem) (ha : SE X W a fa) (hb : SE X W b fb) : SE X W (.BinOp a op b pos) (fBin sem fa fb) := ⟨fun pins s σ H Q I t => wpAny_BinOp (bin_of h ha hb I t)⟩
theorem se_cmpS {op : CmpOp} (h : BinS X W (compareOp op) sem) (ha : SE X W a fa) (hb : SE X W b fb) (hm : behindInMarks op b = false) : SE X W (.Compare a [op] [b] pos) (fBin sem fa fb) := ⟨fun pins s σ H Q I t => wpAny_Compare1 (bin_of h ha hb I t) hm⟩
theorem se_unS {op : UnaryOp} (h : UnS X W (unaryOp op) sem1) (ha : SE X W a fa) : SE X W (.UnaryOp op a pos) (fUn sem1 fa) := ⟨fun pins s σ H Q I t => by
  obtain ⟨w, sg, st, rfl, rm, rs, hp⟩ := t
  refine PyProof.Rows.UnaryOp_ (thn (ha.run pins s σ w.h (MPost X W σ sg Q fun x st1 => sem1 x st1) I ⟨w, sg, st, rfl, rm, rs, hp.bindc fun m1 x v st1 e1 r1 q1 hp1 => ⟨m1, x, st1, rfl, r1, rs.mono e1, q1, hp1⟩⟩) fun u s1 hh => ?_)
  obtain ⟨v, H1, I1, rv, m1, x, st1, rfl, r1, rs1, q1, hp1⟩ := hh
  exact h pins s1 σ m1 st1 x v u Q I1 rv r1 q1 hp1⟩
theorem post_bool {w : Hw} {σ : St} {Q : Bool → Hp → Prop} {r : Res D} (hp : Post X.K X.mg W.w w σ RB Q (r.bind fun x st1 => match x with
      | .bl b => .ok b st1
      | _ => .bad)) : Post X.K X.mg W.w w σ (RD X.K X.mg) (fun v H3 => ∃ k, v = .bl k ∧ Q k H3) r := by
  cases r with
  | ok d st1 =>
    intro m' v e r q'
    cases d with
    | bl b => cases q'; exact ⟨b, rfl, hp m' b e r rfl⟩
    | _ => exact False.elim hp
  | exc c o st1 => exact hp
  | bad => exact hp
theorem sb_cmpS {op : CmpOp} (h : BinS X W (compareOp op) sem) (ha : SE X W a fa) (hb : SE X W b fb) (hm : behindInMarks op b = false) : SB X W (.Compare a [op] [b] pos) (tOfE (fBin sem fa fb)) := by
  refine ⟨fun pins s σ H Q I t => ?_⟩
  obtain ⟨w, sg, st, rfl, rm, rs, hp⟩ := t
  have hp2 := post_bool hp
  refine wpAny_isTrue_Compare1 (wpAny_mono (bin_of h ha hb I ⟨w, sg, st, rfl, rm, rs, hp2⟩) (fun v s1 q => wpAny_mono q (fun u s2 q => wpAny_mono q (fun c s3 q => ?_) fun _ _ z => z) fun _ _ z => z) fun _ _ z => z) hm
  obtain ⟨v, H3, I3, r3, k, e, q3⟩ := q
  subst e
  cases (show c = Value.bool k from r3)
  exact wpAny_truthy_bool ⟨H3, I3, q3⟩
/-! own operators -/
theorem inst_of {pins : List (Addr × Obj)} {s : Shared} {σ : St} {m : Hw} {st : Sto} {x : D} {v : V} {l : List D} (I : Inv X pins σ m.h s) (hc : X.mg (cName c) = some (.ref C)) (rm : Rel X.K X.mg m st) (q : Rep X.K X.mg m.r m.g x v) (e : insOf c x st = some l) :
    ∃ a ox od, v = .ref a ∧ PySem.W.InstAt s.heap a ox C od ∧ ox.data = .plain := by
  obtain ⟨a, dx, fs, h0, h1, h2, h3⟩ := ins_of rm q e hc
  obtain ⟨mA, O, _⟩ := ins_get I.hok h1
  obtain ⟨od, J, _⟩ := O.look
  exact ⟨a, _, od, h0, J, rfl⟩
/-- x op y by the class's own def -/
def dOwnI (c : Nat) (F : FF) (n : Nat) (base : D → D → Sto → Res D) : D → D → Sto → Res D := fun x y st => match insOf c x st, insOf c y st with
  | some _, some _ => cF F n [] [x, y] st
  | _, _ => base x y st
/-- x op i, i an int -/
def dOwnN (c : Nat) (F : FF) (n : Nat) (base : D → D → Sto → Res D) : D → D → Sto → Res D := fun x y st => match insOf c x st, y with
  | some _, .int _ => cF F n [] [x, y] st
  | _, _ => base x y st
def uOwn (c : Nat) (F : FF) (n : Nat) (base : D → Sto → Res D) : D → Sto → Res D := fun x st => match insOf c x st with
  | some _ => cF F n [] [x] st
  | _ => base x st
theorem dBad_ok : BinS X W f (fun _ _ _ => .bad) := fun _ _ _ _ _ _ _ _ _ _ _ _ _ _ _ _ _ _ hp => hp.elim
theorem uBad_ok {f : Value → Sem Value} : UnS X W f (fun _ _ => .bad) := fun _ _ _ _ _ _ _ _ _ _ _ _ _ hp => hp.elim
theorem BinS.ownI {op : Operator} (h : DefOk X.prog X.w X.K X.mg X.base k g ps [] F) (hr : Room k X.A) (tk : Takes X W.w) (hc : X.mg (cName c) = some (.ref C)) (hme : Meth X.K C (PySem.dunder op.info.2) g) (sf : PySem.W.selfFirst X.K C = true) (hb : BinS X W (binaryOp op) base) :
    BinS X W (binaryOp op) (dOwnI c F ps.length base) := by
  intro pins s σ m st x y xv yv v u Q I rx ry rm qx qy hp
  unfold dOwnI at hp
  split at hp
  · rename_i l1 l2 e1 e2
    obtain ⟨a, ox, od, rfl, J, _⟩ := inst_of I hc rm qx e1
    obtain ⟨a2, ox2, od2, rfl, J2, _⟩ := inst_of I hc rm qy e2
    obtain rfl : v = Value.ref a := rx
    obtain rfl : u = Value.ref a2 := ry
    obtain ⟨mm, hF⟩ := I.fr
    obtain ⟨⟨fd, h1, h2, _⟩, h3⟩ := h
    obtain ⟨ds, dv, bb⟩ := h2 0 (Nat.zero_le _)
    refine PySem.W.binop_K hF I.ok.mod.kin J J2.type sf hme.at_ hme.fn (wpAny_mono (run_meth (us := [.ref a2]) (vs := [.ref a2]) h1 hr tk bb ⟨dv, fun _ _ => .nil⟩ qx I (.cons rfl .nil) (Ext.refl m) rm (.one qy) hp) (fun w' s' z => ?_) fun _ _ z => z)
    obtain ⟨z', H', I', rz, qz⟩ := z
    exact SlX.cmpback rz ⟨z', H', I', rz, qz⟩
  · exact hb pins s σ m st x y xv yv v u Q I rx ry rm qx qy hp
/-- what the class must be for an int at the right -/
structure OpN (K : PySem.W.Frag) (C : Addr) (nm : String) : Prop where
  r : ∃ rc, PySem.W.findIn K (.ref C) (dunderR nm) = some rc ∧ (rc = none ∨ ∃ g : Addr, rc = some (.ref g))
  i : ∃ fo, PySem.W.findIn K (.type "int") (PySem.dunder nm) = some fo
  j : ∃ ro, PySem.W.findIn K (.type "int") (dunderR nm) = some ro
  s : PySem.W.subIn K (.type "int") (.ref C) = some false
theorem BinS.ownN {op : Operator} (h : DefOk X.prog X.w X.K X.mg X.base k g ps [] F) (hr : Room k X.A) (tk : Takes X W.w) (hc : X.mg (cName c) = some (.ref C)) (hme : Meth X.K C (PySem.dunder op.info.2) g) (sf : PySem.W.selfFirst X.K C = true) (hn : OpN X.K C op.info.2) (hb : BinS X W (binaryOp op) base) :
    BinS X W (binaryOp op) (dOwnN c F ps.length base) := by
  intro pins s σ m st x y xv yv v u Q I rx ry rm qx qy hp
  unfold dOwnN at hp
  split at hp
  · rename_i l1 i e1
    obtain ⟨a, ox, od, rfl, J, _⟩ := inst_of I hc rm qx e1
    cases qy with
    | int i =>
    obtain rfl : v = Value.ref a := rx
    obtain ⟨t, rfl⟩ := (show ∃ t, u = Value.int i t from ry)
    obtain ⟨mm, hF⟩ := I.fr
    obtain ⟨⟨fd, h1, h2, _⟩, h3⟩ := h
    obtain ⟨ds, dv, bb⟩ := h2 0 (Nat.zero_le _)
    obtain ⟨rc, n1, n2⟩ := hn.r
    obtain ⟨fo, n3⟩ := hn.i
    obtain ⟨ro, n4⟩ := hn.j
    refine PySem.W.ksp_binT hF I.ok.mod.kin J rfl sf hme.at_ hme.fn n1 n2 n3 n4 hn.s (wpAny_mono (run_meth (us := [.int i t]) (vs := [.int i]) h1 hr tk bb ⟨dv, fun _ _ => .nil⟩ qx I (.cons ⟨t, rfl⟩ .nil) (Ext.refl m) rm (.one (.int i)) hp) (fun w' s' z => ?_) fun _ _ z => z)
    obtain ⟨z', H', I', rz, qz⟩ := z
    exact SlX.cmpback rz ⟨z', H', I', rz, qz⟩
  · exact hb pins s σ m st x _ xv yv v u Q I rx ry rm qx qy hp
theorem UnS.neg (h : DefOk X.prog X.w X.K X.mg X.base k g ps [] F) (hr : Room k X.A) (tk : Takes X W.w) (hc : X.mg (cName c) = some (.ref C)) (hme : Meth X.K C "__neg__" g) (hb : UnS X W (unaryOp .USub) base1) : UnS X W (unaryOp .USub) (uOwn c F ps.length base1) := by
  intro pins s σ m st x xv v Q I rx rm qx hp
  unfold uOwn at hp
  split at hp
  · rename_i l1 e1
    obtain ⟨a, ox, od, rfl, J, _⟩ := inst_of I hc rm qx e1
    obtain rfl : v = Value.ref a := rx
    obtain ⟨mm, hF⟩ := I.fr
    obtain ⟨⟨fd, h1, h2, _⟩, h3⟩ := h
    obtain ⟨ds, dv, bb⟩ := h2 0 (Nat.zero_le _)
    exact PySem.W.ksp_neg hF I.ok.mod.kin J hme.at_ hme.fn (run_meth (us := []) (vs := []) h1 hr tk bb ⟨dv, fun _ _ => .nil⟩ qx I .nil (Ext.refl m) rm .nil hp)
  · exact hb pins s σ m st x xv v Q I rx rm qx hp
theorem UnS.inv (h : DefOk X.prog X.w X.K X.mg X.base k g ps [] F) (hr : Room k X.A) (tk : Takes X W.w) (hc : X.mg (cName c) = some (.ref C)) (hme : Meth X.K C "__invert__" g) (hb : UnS X W (unaryOp .Invert) base1) : UnS X W (unaryOp .Invert) (uOwn c F ps.length base1) := by
  intro pins s σ m st x xv v Q I rx rm qx hp
  unfold uOwn at hp
  split at hp
  · rename_i l1 e1
    obtain ⟨a, ox, od, rfl, J, _⟩ := inst_of I hc rm qx e1
    obtain rfl : v = Value.ref a := rx
    obtain ⟨mm, hF⟩ := I.fr
    obtain ⟨⟨fd, h1, h2, _⟩, h3⟩ := h
    obtain ⟨ds, dv, bb⟩ := h2 0 (Nat.zero_le _)
    exact PySem.W.ksp_inv hF I.ok.mod.kin J hme.at_ hme.fn (run_meth (us := []) (vs := []) h1 hr tk bb ⟨dv, fun _ _ => .nil⟩ qx I .nil (Ext.refl m) rm .nil hp)
  · exact hb pins s σ m st x xv v Q I rx rm qx hp
end
end Sh
/-! Part L: calls with keywords. -/
namespace Sh
open PySem L2 He
/-- positional values, defaults and keywords' values, put into the parameters' order -/
def pick {α : Type} (arr : List (Nat × Nat)) (us its ws : List α) : List α := arr.filterMap fun p => match p.1 with
  | 0 => us[p.2]?
  | 1 => its[p.2]?
  | _ => ws[p.2]?
theorem vals_get : ∀ {vs : List V} {us : List Value} (i : Nat), Vals vs us → (vs[i]? = none ∧ us[i]? = none) ∨ ∃ v u, vs[i]? = some v ∧ us[i]? = some u ∧ RelV v u
  | _, _, i, .nil => .inl ⟨by simp, by simp⟩
  | _, _, 0, .cons h _ => .inr ⟨_, _, rfl, rfl, h⟩
  | _, _, i + 1, .cons _ h => by simpa using vals_get i h
theorem pick_vals {vs ds zs : List V} {us its ws : List Value} (h1 : Vals vs us) (h2 : Vals ds its) (h3 : Vals zs ws) : ∀ arr : List (Nat × Nat), Vals (pick arr vs ds zs) (pick arr us its ws)
  | [] => .nil
  | p :: arr => by
    have ih := pick_vals h1 h2 h3 arr
    unfold pick at ih ⊢
    rw [List.filterMap_cons, List.filterMap_cons]
    obtain ⟨a, i⟩ := p
    match a with
    | 0 =>
      dsimp only
      rcases vals_get i h1 with ⟨e1, e2⟩ | ⟨v, u, e1, e2, r⟩
      · rw [e1, e2]; exact ih
      · rw [e1, e2]; exact .cons r ih
    | 1 =>
      dsimp only
      rcases vals_get i h2 with ⟨e1, e2⟩ | ⟨v, u, e1, e2, r⟩
      · rw [e1, e2]; exact ih
      · rw [e1, e2]; exact .cons r ih
    | _ + 2 =>
      dsimp only
      rcases vals_get i h3 with ⟨e1, e2⟩ | ⟨v, u, e1, e2, r⟩
      · rw [e1, e2]; exact ih
      · rw [e1, e2]; exact .cons r ih
theorem reps_get {K : PySem.W.Frag} {mg : Str → Option Value} {r : List Addr} {G : Hp} : ∀ {ds : List D} {vs : List V} (i : Nat), Reps K mg r G ds vs → (ds[i]? = none ∧ vs[i]? = none) ∨ ∃ d v, ds[i]? = some d ∧ vs[i]? = some v ∧ Rep K mg r G d v
  | [], _, i, h => by cases h; exact .inl ⟨by simp, by simp⟩
  | d :: l, _, 0, h => by cases h with | cons h1 h2 => exact .inr ⟨_, _, rfl, rfl, h1⟩
  | d :: l, _, i + 1, h => by cases h with | cons h1 h2 => simpa using reps_get i h2
theorem pick_reps {K : PySem.W.Frag} {mg : Str → Option Value} {r : List Addr} {G : Hp} {vs ds zs : List D} {us its ws : List V} (h1 : Reps K mg r G vs us) (h2 : Reps K mg r G ds its) (h3 : Reps K mg r G zs ws) : ∀ arr : List (Nat × Nat), Reps K mg r G (pick arr vs ds zs) (pick arr us its ws)
  | [] => .nil
  | p :: arr => by
    have ih := pick_reps h1 h2 h3 arr
    unfold pick at ih ⊢
    rw [List.filterMap_cons, List.filterMap_cons]
    obtain ⟨a, i⟩ := p
    match a with
    | 0 =>
      dsimp only
      rcases reps_get i h1 with ⟨e1, e2⟩ | ⟨v, u, e1, e2, r⟩
      · rw [e1, e2]; exact ih
      · rw [e1, e2]; exact .cons r ih
    | 1 =>
      dsimp only
      rcases reps_get i h2 with ⟨e1, e2⟩ | ⟨v, u, e1, e2, r⟩
      · rw [e1, e2]; exact ih
      · rw [e1, e2]; exact .cons r ih
    | _ + 2 =>
      dsimp only
      rcases reps_get i h3 with ⟨e1, e2⟩ | ⟨v, u, e1, e2, r⟩
      · rw [e1, e2]; exact ih
      · rw [e1, e2]; exact .cons r ih
structure KB (K : PySem.W.Frag) (fd : FuncData) (ps : List Str) (n : Nat) (ks : List Str) (arr : List (Nat × Nat)) (its : List Value) : Prop where
  to : ∀ (s : Shared) (us ws : List Value), K.In s.heap → us.length = n → ws.length = ks.length → BindsTo s fd ⟨us, ks.zip ws⟩ (ps.zip (pick arr us its ws))
/-- a def called with n positional values and the keywords ks -/
def DefKw (P : Program) (w : World) (K : PySem.W.Frag) (mg : Str → Option Value) (base : Heap) (k : Nat) (f : Addr) (ps : List Str) (dvs : List V) (F : FF) (n : Nat) (ks : List Str) (arr : List (Nat × Nat)) : Prop :=
  ∃ fd its, FnOk P w K mg base (L2.CX P w) k f fd ps (spF K mg ps.length F) ∧ Vals dvs its ∧ KB K fd ps n ks arr its ∧ PySem.W.keepIn K (.ref f) = true
section
variable {P : Program} {w : World} {K : PySem.W.Frag} {mg : Str → Option Value} {base : Heap} {x qual : Str} {params : Arguments} {body : List Stmt} {scope : Scope} {f : Addr} {ps ks : List Str} {k n : Nat} {arr : List (Nat × Nat)} {dvs : List V} {F : FF}
theorem DefOk.kw (h : DefOk P w K mg base k f ps [] F) (FD : ∃ fd, FunD K x qual params body scope [] [] f fd)
    (hb : ∀ (kV doc pm : Value) (an : Option Addr) (cdv ct : Value) (us ws : List Value), us.length = n → ws.length = ks.length → bindArgs (PySem.W.fnOf x qual params body scope .none kV doc pm an cdv ct) ⟨us, ks.zip ws⟩ = pure (ps.zip (pick arr us [] ws))) :
    DefKw P w K mg base k f ps [] F n ks arr := by
  obtain ⟨⟨fd, h1, _, oc, od, osl, lk⟩, h3⟩ := h
  obtain ⟨fd2, FD⟩ := FD
  obtain ⟨oc2, od2, dV, kV, doc, pm, an, cdv, ct, osl2, e, lk2, _, hD, _⟩ := FD.ex
  rw [lk] at lk2
  cases Option.some.inj lk2
  refine ⟨_, [], h1, .nil, ⟨fun s us ws X l1 l2 => ?_⟩, h3⟩
  rcases hD with ⟨_, rfl⟩ | ⟨z, _⟩
  · subst e
    exact .of_eq (hb kV doc pm an cdv ct us ws l1 l2)
  · exact absurd rfl z
theorem DefOk.kwD (h : DefOk P w K mg base k f ps dvs F) (FD : ∃ fd, FunD K x qual params body scope dvs [] f fd) (hd : dvs ≠ [])
    (hb : ∀ (T : Addr) (kV doc pm : Value) (an : Option Addr) (cdv ct : Value) (us its ws : List Value), us.length = n → its.length = dvs.length → ws.length = ks.length →
      ∃ k, bindArgs (PySem.W.fnOf x qual params body scope (.ref T) kV doc pm an cdv ct) ⟨us, ks.zip ws⟩ = seqItems? (.ref T) >>= k ∧ k (some its.toArray) = pure (ps.zip (pick arr us its ws))) :
    DefKw P w K mg base k f ps dvs F n ks arr := by
  obtain ⟨⟨fd, h1, _, oc, od, osl, lk⟩, h3⟩ := h
  obtain ⟨fd2, FD⟩ := FD
  obtain ⟨oc2, od2, dV, kV, doc, pm, an, cdv, ct, osl2, e, lk2, _, hD, _⟩ := FD.ex
  rw [lk] at lk2
  cases Option.some.inj lk2
  rcases hD with ⟨z, _⟩ | ⟨_, T, o, its, m, rfl, lT, oT, rT⟩
  · exact absurd z hd
  · refine ⟨_, its, h1, rT, ⟨fun s us ws X l1 l2 => ?_⟩, h3⟩
    subst e
    obtain ⟨k, e1, e2⟩ := hb T kV doc pm an cdv ct us its ws l1 rT.length.symm l2
    refine BindsTo.of_looks fun M => ?_
    rw [e1]
    exact looks_items X lT oT (.of_pure e2)
end
def cK (F : FF) (n np nk : Nat) (arr : List (Nat × Nat)) (dds : List D) (l z : List D) (st : Sto) : Res D :=
  if l.length = np ∧ z.length = nk ∧ (pick arr l dds z).length = n then F (pick arr l dds z) st else .bad
@[simp] def fCallK (sem : List D → List D → Sto → Res D) (g gk : AF) : EF := fun sg st => (g sg st).bind fun l st1 => (gk sg st1).bind fun z st2 => sem l z st2
def SK (X : Cx) (W : We) (kws : List Keyword) (g : AF) : Prop := PK X kws (TOf X.K X.mg W (RDs X.K X.mg) g)
section
variable {X : Cx} {W : We} {e o : Expr} {es : List Expr} {kws : List Keyword} {fo fe : EF} {g gk : AF} {pos p apos kpos : Pos} {x m : Str} {k np : Nat} {fa C : Addr} {ps ks : List Str} {dvs : List V} {dds : List D} {F : FF} {arr : List (Nat × Nat)} {nm : Option Str}
theorem sk_nil : SK X W [] aNil := ⟨fun pos pins s σ H Q I ⟨m, sg, st, e, rm, rs, hp⟩ => pk_nil.run pos pins s σ H Q I (by subst e; exact hp.okc rm .nil)⟩
theorem sk_cons (ha : SE X W e fe) (hr : SK X W kws gk) : SK X W (⟨nm, e, kpos⟩ :: kws) (aCons fe gk) :=
  ⟨fun pos pins s σ H Q I ⟨m, sg, st, e, rm, rs, hp⟩ => (pk_cons ha hr).run pos pins s σ H Q I ⟨m, sg, st, e, rm, rs, hp.bindc fun m1 x v st1 e1 r1 q1 hp1 => ⟨m1, sg, st1, rfl, r1, rs.mono e1, hp1.bindc fun m2 l vs st2 e2 r2 q2 hp2 => hp2.okc r2 (.cons (q1.mono e2) q2)⟩⟩⟩
theorem run_kw {σ : St} {Q : VK} {pins : List (Addr × Obj)} {us ws : List Value} {s2 : Shared} {m2 : Hw} {l z : List D} {vs zs : List V} {st2 : Sto} (h : DefKw X.prog X.w X.K X.mg X.base k fa ps dvs F np ks arr) (hd : ∀ r G, Reps X.K X.mg r G dds dvs) (hr : Room k X.A) (tk : Takes X W.w)
    (I2 : Inv X pins σ m2.h s2) (rv : Vals vs us) (rz : Vals zs ws) (r2 : Rel X.K X.mg m2 st2) (q2 : Reps X.K X.mg m2.r m2.g l vs) (qz : Reps X.K X.mg m2.r m2.g z zs) (hp2 : Post X.K X.mg W.w m2 σ (RD X.K X.mg) Q (cK F ps.length np ks.length arr dds l z st2)) :
    wpAny (model X.prog X.w) X.A (call (.ref fa) us (ks.zip ws)) (EP X pins σ Q) X.xe s2 := by
  obtain ⟨fd, its, hF, hv, hb, _⟩ := h
  unfold cK at hp2
  split at hp2
  · rename_i hl
    obtain ⟨l1, l2, l3⟩ := hl
    refine wpAny_call (codeAny_mono (hF.run X.A X.stack s2 m2.h ⟨us, ks.zip ws⟩ (pick arr us its ws) (pick arr vs dvs zs) Q (WE W.w σ) hr I2.env0 (hb.to s2 us ws I2.kIn (by rw [← rv.length, ← q2.length]; exact l1) (by rw [← rz.length, ← qz.length]; exact l2)) (pick_vals rv hv rz arr)
      ⟨m2, _, st2, rfl, r2, pick_reps q2 (hd _ _) qz arr, l3, hp2.conv⟩) fun r s' hq => ?_)
    cases r with
    | error e => exact passAt tk σ pins _ _ e s' I2 hq
    | ok fl =>
      cases fl with
      | ret u => exact I2.after hq
      | next => exact False.elim hq
      | brk => exact False.elim hq
      | cont => exact False.elim hq
  · exact False.elim hp2
theorem se_callK (h : DefKw X.prog X.w X.K X.mg X.base k fa ps dvs F np ks arr) (hd : ∀ r G, Reps X.K X.mg r G dds dvs) (hr : Room k X.A) (tk : Takes X W.w) (hg : Gl X x) (hm : X.mg x = some (.ref fa)) (ha : SA X W (e :: es) g) (hk : SK X W kws gk)
    (hall : (backToKw pos (keywordEach kws X.env)).all (·.1.isSome) = true := by rfl) (hks : (backToKw pos (keywordEach kws X.env)).filterMap (·.1) = ks := by rfl)
    (hdb : (x == ("__debug__" : Str)) = false := by decide) (he : starEach (e :: es) X.env = (false, eval e X.env) :: starEach es X.env := by rfl)
    (hpl : ((backTo pos (starEach (e :: es) X.env)).any (·.1) || (backToKw pos (keywordEach kws X.env)).any (·.1.isNone)) = false := by rfl) :
    SE X W (.Call (.Name x p) (e :: es) kws pos) (fCallK (cK F ps.length np ks.length arr dds) g gk) := by
  refine ⟨fun pins s σ H Q I ht => ?_⟩
  obtain ⟨w, sg, st, rfl, rm, rs, hp⟩ := ht
  have hkp := h
  obtain ⟨_, _, _, _, _, hkp⟩ := hkp
  refine wpAny_Call_Name_kw (ld_glob I hg hm ?_ hdb)
  refine PySem.W.callWith_KW (h₀ := X.base) I.ok.mod.kin hkp hall (thn (ha.run pos pins s σ w.h (fun vs H2 => ∃ m2 l st2, m2.h = H2 ∧ Rel X.K X.mg m2 st2 ∧ SgRep X.K X.mg W.e m2 sg σ ∧ Reps X.K X.mg m2.r m2.g l vs ∧ Post X.K X.mg W.w m2 σ (RD X.K X.mg) Q ((gk sg st2).bind fun z st3 => cK F ps.length np ks.length arr dds l z st3)) I
    ⟨w, sg, st, rfl, rm, rs, hp.bindc fun m2 l vs st2 e2 r2 q2 hp2 => ⟨m2, l, st2, rfl, r2, rs.mono e2, q2, hp2⟩⟩) fun us s1 hz => ?_) hpl he
  obtain ⟨vs, H2, I2, rv, m2, l, st2, rfl, r2, rs2, q2, hp2⟩ := hz
  refine thn (hk.run pos pins s1 σ m2.h (fun zs H3 => ∃ m3 z st3, m3.h = H3 ∧ Ext m2 m3 ∧ Rel X.K X.mg m3 st3 ∧ Reps X.K X.mg m3.r m3.g z zs ∧ Post X.K X.mg W.w m3 σ (RD X.K X.mg) Q (cK F ps.length np ks.length arr dds l z st3)) I2
    ⟨m2, sg, st2, rfl, r2, rs2, hp2.bindc fun m3 z zs st3 e3 r3 q3 hp3 => ⟨m3, z, st3, rfl, e3, r3, q3, hp3⟩⟩) fun ws s2 hz => ?_
  obtain ⟨zs, H3, I3, rz, m3, z, st3, rfl, e3, r3, q3, hp3⟩ := hz
  refine ⟨I3.kIn, ?_⟩
  rw [hks]
  exact run_kw h hd hr tk I3 rv rz r3 (q2.mono e3) q3 hp3
theorem se_callK0 (h : DefKw X.prog X.w X.K X.mg X.base k fa ps dvs F np ks arr) (hd : ∀ r G, Reps X.K X.mg r G dds dvs) (hr : Room k X.A) (tk : Takes X W.w) (hg : Gl X x) (hm : X.mg x = some (.ref fa)) (hk : SK X W kws gk)
    (hall : (backToKw pos (keywordEach kws X.env)).all (·.1.isSome) = true := by rfl) (hks : (backToKw pos (keywordEach kws X.env)).filterMap (·.1) = ks := by rfl)
    (hdb : (x == ("__debug__" : Str)) = false := by decide)
    (hpl : ((backTo pos (starEach [] X.env)).any (·.1) || (backToKw pos (keywordEach kws X.env)).any (·.1.isNone)) = false := by rfl) :
    SE X W (.Call (.Name x p) [] kws pos) (fCallK (cK F ps.length np ks.length arr dds) aNil gk) := by
  refine ⟨fun pins s σ H Q I ht => ?_⟩
  obtain ⟨w, sg, st, rfl, rm, rs, hp⟩ := ht
  have hkp := h
  obtain ⟨_, _, _, _, _, hkp⟩ := hkp
  refine wpAny_Call_Name_kw (ld_glob I hg hm ?_ hdb)
  refine PySem.W.callWith_KW0 (h₀ := X.base) I.ok.mod.kin hkp hall (thn (hk.run pos pins s σ w.h (fun zs H3 => ∃ m3 z st3, m3.h = H3 ∧ Rel X.K X.mg m3 st3 ∧ Reps X.K X.mg m3.r m3.g z zs ∧ Post X.K X.mg W.w m3 σ (RD X.K X.mg) Q (cK F ps.length np ks.length arr dds [] z st3)) I
    ⟨w, sg, st, rfl, rm, rs, Post.bindc (x := gk sg st) hp fun m3 z zs st3 e3 r3 q3 hp3 => ⟨m3, z, st3, rfl, r3, q3, hp3⟩⟩) fun ws s2 hz => ?_) hpl
  obtain ⟨zs, H3, I3, rz, m3, z, st3, rfl, r3, q3, hp3⟩ := hz
  refine ⟨I3.kIn, ?_⟩
  rw [hks]
  exact run_kw (us := []) h hd hr tk I3 .nil rz r3 .nil q3 hp3
/-- o.m(k = v, ..) -/
@[simp] def fMethK (c : Nat) (sem : List D → List D → Sto → Res D) (fo : EF) (gk : AF) : EF := fun sg st => (fo sg st).bind fun x st1 => match insOf c x st1 with
  | some _ => (gk sg st1).bind fun z st2 => sem [x] z st2
  | none => .bad
theorem se_methK {c : Nat} {pl : Sem Bool} (h : DefKw X.prog X.w X.K X.mg X.base k fa ps dvs F np ks arr) (hd : ∀ r G, Reps X.K X.mg r G dds dvs) (hr : Room k X.A) (tk : Takes X W.w) (hc : X.mg (cName c) = some (.ref C)) (cl : Cls X.K C) (hme : Meth X.K C m fa) (hnf : m ∉ cFlds c)
    (ho : SE X W o fo) (hk : SK X W kws gk)
    (hall : (backToKw pos (keywordEach kws X.env)).all (·.1.isSome) = true := by rfl) (hks : (backToKw pos (keywordEach kws X.env)).filterMap (·.1) = ks := by rfl)
    (hpl : ((backTo pos (starEach [] X.env)).any (·.1) || (backToKw pos (keywordEach kws X.env)).any (·.1.isNone)) = false := by rfl)
    (ht : eval (.Call (.Attribute o m apos) [] kws pos) X.env = (do
      let ov ← eval o X.env
      standAt apos.atName
      let (f, first) ← holding [ov] (getMethod ov m pl)
      callWith pos f first (backTo pos (starEach [] X.env)) (backToKw pos (keywordEach kws X.env))) := by rfl) :
    SE X W (.Call (.Attribute o m apos) [] kws pos) (fMethK c (cK F ps.length np ks.length arr dds) fo gk) := by
  refine ⟨fun pins s σ H Q I hq => ?_⟩
  obtain ⟨w, sg, st, rfl, rm, rs, hp⟩ := hq
  refine PySem.W.methodCall_KW (pl := pl) (thn (ho.run pins s σ w.h (MPost X W σ sg Q fun x st1 => match insOf c x st1 with
    | some _ => (gk sg st1).bind fun z st2 => cK F ps.length np ks.length arr dds [x] z st2
    | none => .bad) I ⟨w, sg, st, rfl, rm, rs, hp.bindc fun m1 x v st1 e1 r1 q1 hp1 => ⟨m1, x, st1, rfl, r1, rs.mono e1, q1, hp1⟩⟩) fun u s1 hh => ?_) ht
  obtain ⟨v, H1, I1, rv, m1, x, st1, rfl, r1, rs1, q1, hp1⟩ := hh
  dsimp only at hp1
  split at hp1
  · rename_i l0 hl0
    obtain ⟨a, dx, fs, rfl, h1, h2, h3⟩ := ins_of r1 q1 hl0 hc
    obtain rfl : u = Value.ref a := rv
    refine getmeth_ok I1 h1 cl hme (lookup_none h2 fun z => hnf (List.mem_of_mem_take z)) ?_
    refine PySem.W.callWith_KW0 (first := [.ref a]) (h₀ := X.base) I1.ok.mod.kin hme.kp hall (thn (hk.run pos pins s1 σ m1.h (fun zs H3 => ∃ m3 z st3, m3.h = H3 ∧ Ext m1 m3 ∧ Rel X.K X.mg m3 st3 ∧ Reps X.K X.mg m3.r m3.g z zs ∧ Post X.K X.mg W.w m3 σ (RD X.K X.mg) Q (cK F ps.length np ks.length arr dds [x] z st3)) I1
      ⟨m1, sg, st1, rfl, r1, rs1, Post.bindc (x := gk sg st1) hp1 fun m3 z zs st3 e3 r3 q3 hp3 => ⟨m3, z, st3, rfl, e3, r3, q3, hp3⟩⟩) fun ws s2 hz => ?_) hpl
    obtain ⟨zs, H3, I3, rz, m3, z, st3, rfl, e3, r3, q3, hp3⟩ := hz
    refine ⟨I3.kIn, ?_⟩
    rw [hks]
    exact run_kw (us := [.ref a]) (vs := [.ref a]) h hd hr tk I3 (.cons rfl .nil) rz r3 (.one (q1.mono e3)) q3 hp3
  · exact False.elim hp1
end
/-! facts of classes with own operators -/
theorem takesF {X : Cx} {W : We} : Takes X (WF W).w := fun u s' ⟨a, B, sI, pins, σ, H, cls, d, e, I, nb, up, sky, na, os, ag, w⟩ => w.elim
def bSelf (x : Str) (K : PySem.W.Frag) : Bool := PySem.W.selfFirst K (ga K x)
def bOpN (x : Str) (nm : String) (K : PySem.W.Frag) : Bool := decide (PySem.W.findIn K (.ref (ga K x)) (dunderR nm) = some none) && (PySem.W.findIn K (.type "int") (PySem.dunder nm)).isSome && (PySem.W.findIn K (.type "int") (dunderR nm)).isSome && decide (PySem.W.subIn K (.type "int") (.ref (ga K x)) = some false)
theorem self_ok {K : PySem.W.Frag} {x : Str} (h : bSelf x K = true) : PySem.W.selfFirst K (ga K x) = true := h
theorem opN_ok {K : PySem.W.Frag} {x : Str} {nm : String} (h : bOpN x nm K = true) : OpN K (ga K x) nm := by
  unfold bOpN at h
  simp only [Bool.and_eq_true, decide_eq_true_eq] at h
  obtain ⟨⟨⟨h1, h2⟩, h3⟩, h4⟩ := h
  exact ⟨⟨_, h1, .inl rfl⟩, Option.isSome_iff_exists.mp h2, Option.isSome_iff_exists.mp h3, h4⟩
end Sh
/-! Part M: == and != by an own __eq__, own __call__, methods of lists. -/
namespace Sh
open PySem L2 He
section
variable {X : Cx} {W : We} {a b : Expr} {fa fb : EF} {pos : Pos} {sem base : D → D → Sto → Res D} {k c : Nat} {g C : Addr} {F : FF} {ps : List Str}
theorem looks_ty {M : Model} {h : Heap} {a : Addr} {o : Obj} {t : Value} (e : h.get? a = some o) (hc : o.cls = t) : PySem.W.Looks M h (typeOf (.ref a)) t := fun A Q E s k q => wpAny_typeOf_ref (k _ _ e) (hc ▸ q)
/-- the type of a value that is no instance -/
theorem ty_val {pins : List (Addr × Obj)} {s : Shared} {σ : St} {m : Hw} {st : Sto} {y : D} {v : V} {u : Value} {t : String} (I : Inv X pins σ m.h s) (rm : Rel X.K X.mg m st) (q : Rep X.K X.mg m.r m.g y v) (ru : RelV v u) (e : tyD y st = some t) (hd : t ≠ "dict") :
    PySem.W.Looks (model X.prog X.w) s.heap (typeOf u) (.type t) := by
  unfold tyD at e
  split at e
  · cases q; cases e; cases (show u = Value.none from ru); exact .of_pure rfl
  · cases q; cases e; cases (show u = Value.bool _ from ru); exact .of_pure rfl
  · cases q; cases e; obtain ⟨t, rfl⟩ := (show ∃ t, u = Value.int _ t from ru); exact .of_pure rfl
  · cases q; cases e; obtain ⟨t, rfl⟩ := (show ∃ t, u = Value.str _ t from ru); exact .of_pure rfl
  · cases e
    cases q with
    | tup h1 h2 =>
      obtain rfl : u = Value.ref _ := ru
      obtain ⟨its, _, ⟨o, ho, hc, _⟩, _⟩ := I.tuple (sqT_mono rm.sub h1)
      exact looks_ty ho hc
  · cases e
    cases q with
    | lst h1 h2 =>
      obtain rfl : u = Value.ref _ := ru
      obtain ⟨_, its, n, _, _, ho⟩ := I.lstM (rm.sub _ _ h1)
      exact looks_ty ho rfl
  · cases e; exact absurd rfl hd
  · cases q with
    | loc h1 =>
      split at e
      · rename_i l h2
        cases e
        obtain ⟨vs, h3, _⟩ := rm.obj _ _ _ h1 h2
        obtain rfl : u = Value.ref _ := ru
        obtain ⟨_, its, n, _, _, ho⟩ := I.lstM h3
        exact looks_ty ho rfl
      · cases e; exact absurd rfl hd
      · cases e
  · cases e
/-- the types that an own == meets -/
def eqTys : List String := ["NoneType", "bool", "int", "str", "tuple", "list"]
def okEq (c : Nat) (y : D) (st : Sto) : Bool := (insOf c y st).isSome || (match tyD y st with
  | some t => eqTys.contains t
  | none => false)
def dOwnE (c : Nat) (F : FF) (n : Nat) (base : D → D → Sto → Res D) : D → D → Sto → Res D := fun x y st => match insOf c x st with
  | some _ => if okEq c y st = true then cF F n [] [x, y] st else .bad
  | none => base x y st
theorem looks_eq {pins : List (Addr × Obj)} {s : Shared} {σ : St} {m : Hw} {st : Sto} {y : D} {v : V} {u : Value} (I : Inv X pins σ m.h s) (hc : X.mg (cName c) = some (.ref C)) (nt : ∀ t ∈ eqTys, PySem.W.subIn X.K (.type t) (.ref C) = some false) (rm : Rel X.K X.mg m st) (q : Rep X.K X.mg m.r m.g y v) (ru : RelV v u)
    (e : okEq c y st = true) : ∃ tb, PySem.W.Looks (model X.prog X.w) s.heap (typeOf u) tb ∧ PySem.W.notFirst X.K C tb = true := by
  unfold okEq at e
  rcases Bool.or_eq_true_iff.mp e with e | e
  · obtain ⟨l, hl⟩ := Option.isSome_iff_exists.mp e
    obtain ⟨a, ox, od, rfl, J, _⟩ := inst_of I hc rm q hl
    obtain rfl : u = Value.ref a := ru
    exact ⟨_, J.type, by unfold PySem.W.notFirst; simp⟩
  · split at e
    · rename_i t ht
      have hm : t ∈ eqTys := List.contains_iff_mem.mp e
      refine ⟨_, ty_val I rm q ru ht (fun z => by subst z; simp [eqTys] at hm), ?_⟩
      unfold PySem.W.notFirst
      rw [nt t hm]
      simp
    · cases e
theorem BinS.ownE (h : DefOk X.prog X.w X.K X.mg X.base k g ps [] F) (hr : Room k X.A) (tk : Takes X W.w) (hc : X.mg (cName c) = some (.ref C)) (hme : Meth X.K C "__eq__" g) (nt : ∀ t ∈ eqTys, PySem.W.subIn X.K (.type t) (.ref C) = some false) (hb : BinS X W (compareOp .Eq) base) :
    BinS X W (compareOp .Eq) (dOwnE c F ps.length base) := by
  intro pins s σ m st x y xv yv v u Q I rx ry rm qx qy hp
  unfold dOwnE at hp
  split at hp
  · rename_i l1 e1
    split at hp
    · rename_i ho
      obtain ⟨a, ox, od, rfl, J, _⟩ := inst_of I hc rm qx e1
      obtain rfl : v = Value.ref a := rx
      obtain ⟨tb, L, hn⟩ := looks_eq I hc nt rm qy ry ho
      obtain ⟨mm, hF⟩ := I.fr
      obtain ⟨⟨fd, h1, h2, _⟩, h3⟩ := h
      obtain ⟨ds, dv, bb⟩ := h2 0 (Nat.zero_le _)
      show wpAny _ _ (richCompare .Eq (.ref a) u) _ _ _
      refine PySem.W.cmp_K (op := .Eq) (tb := tb) hr.units0 hF I.ok.mod.kin J L hn hme.at_ hme.fn (wpAny_mono (run_meth (us := [u]) (vs := [yv]) h1 hr tk bb ⟨dv, fun _ _ => .nil⟩ qx I (.cons ry .nil) (Ext.refl m) rm (.one qy) hp) (fun w' s' z => ?_) fun _ _ z => z)
      obtain ⟨z', H', I', rz, qz⟩ := z
      exact SlX.cmpback rz ⟨z', H', I', rz, qz⟩
    · exact False.elim hp
  · exact hb pins s σ m st x y xv yv v u Q I rx ry rm qx qy hp
end
/-! != of a class with its own == only -/
section
open PySem.W PyProof.Rows
variable {prog : Program} {w : World} {A : Around} {E : Value → Shared → Prop} {s : Shared} {K : Frag} {x C L f : Addr} {h₀ : Heap} {m : Str → Option Value} {ox : Obj} {od : Option Obj} {b tb : Value}
theorem ne_body {Q : Fin → Shared → Prop} (hu : A.units < cLine) (X : K.In s.heap) (I : InstAt s.heap x ox C od) (hs : findIn K (.ref C) "__eq__" = some (some (.ref f))) (hf : isFn K (.ref f) = true)
    (h : wpAny (model prog w) A (call (.ref f) [.ref x, b]) (fun v s' => ∃ c, v = .bool c ∧ Q (.done (.ret (.bool (!c)))) s') E s) : wpAny (model prog w) A (Builtin.«object.__ne__» ⟨[.ref x, b], []⟩) Q E s := by
  unfold Builtin.«object.__ne__»
  repeat (first
    | with_reducible refine wpAny_cRoomFor hu ?_
    | (refine wpAny_bind (m := callSpecialIfBound? (.ref x) (Str.ofString "__eq__") [b])
        (ifBound_K X I hs hf (wpAny_mono h (fun r s' hr => by
          obtain ⟨b, rfl, hq⟩ := hr
          repeat (first | exact hq | exact wpAny_pure hq | exact wpAny_truthy_bool hq | (refine wpAny_bind (m := truthy (.bool _)) (wpAny_truthy_bool ?_)) | wp_step)) fun _ _ e => e)))
    | wp_step)
theorem ne_check {M : Model} {Q : Unit → Shared → Prop} (X : K.In s.heap) (I : InstAt s.heap x ox C od) (hso : subIn K (.ref C) (.type "object") = some true) (hq : Q () s) : wpAny M A (checkBuiltinCall "object.__ne__" ⟨[.ref x, b], []⟩) Q E s := by
  have ha := PySem.F.cmpArgs_ne (.ref x) b
  simp only [checkBuiltinCall, PySem.F.cmpKind_ne, PySem.F.cmpSplit_ne]
  refine wpAny_bind ?_
  unfold isInstance
  refine wpAny_bind (I.type.here ((looks_subIn X hso).here ?_))
  cases hsig : Manifest.signature? "object.__ne__" with
  | none => exact wpAny_pure hq
  | some sig =>
    simp only [argsOk, hsig] at ha
    have h2 : Bind.checkArgs "object.__ne__" sig ⟨[.ref x, b], []⟩ = pure () := ha
    show wpAny M A (Bind.checkArgs "object.__ne__" sig ⟨[.ref x, b], []⟩) Q E _
    rw [h2]; exact wpAny_pure hq
theorem ne_viaEq {Q : Value → Shared → Prop} (hu : A.units + 1 < cLine) (F : Fr h₀ L s.heap m) (X₀ : K.In h₀) (I : InstAt s.heap x ox C od) (hb : Looks (model prog w) s.heap (typeOf b) tb) (hn : notFirst K C tb = true)
    (hne : findIn K (.ref C) "__ne__" = some (some (.builtin "object.__ne__"))) (hso : subIn K (.ref C) (.type "object") = some true) (hs : findIn K (.ref C) "__eq__" = some (some (.ref f))) (hf : isFn K (.ref f) = true)
    (h : wpAny (model prog w) A.in1 (call (.ref f) [.ref x, b]) (fun v s' => ∃ c, v = .bool c ∧ Q (.bool (!c)) s') E s) : wpAny (model prog w) A (richCompare .NotEq (.ref x) b) Q E s := by
  have X := X₀.keeps F.keep
  have S := PySem.F.cmp_object.ne
  have one : wpAny (model prog w) A (tryCompare (.ref x) (cmpInfo .NotEq).2.1 b) (fun r s' => ∃ v, r = some v ∧ Q v s') E s := by
    unfold tryCompare
    refine wpAny_bind ?_
    simp only [callSpecialIfBound?, bindSpecialIfBound?]
    refine wpAny_holding (wpAny_bind (wpAny_bind (wpAny_bind (I.type.here ((looks_findIn X hne).here ?_)))))
    simp only [S.bind]
    have fin : ∀ {Q' : Option Value → Shared → Prop}, (∀ v s', (∃ c, v = .bool c ∧ Q (.bool c) s') → Q' (some v) s') → wpAny (model prog w) A (call (.builtin "object.__ne__") ([.ref x] ++ [b]) >>= fun v => pure (some v)) Q' E s := fun {Q'} hq => by
      refine wpAny_bind (wpAny_mono (Q := fun v s' => ∃ c, v = .bool c ∧ Q (.bool c) s') (wpAny_call (codeAny_call_builtin S.plain PySem.F.cmpEntry_ne (ne_check X I hso (ne_body (A := A.in1) hu X I hs hf (wpAny_mono h (fun v s' hv => ?_) fun _ _ e => e))))) (fun v s' z => wpAny_pure (hq v s' z)) fun _ _ e => e)
      obtain ⟨c, rfl, hq'⟩ := hv
      exact ⟨c, rfl, ⟨_, rfl, hq'⟩⟩
    have last : ∀ v s', (∃ c, v = Value.bool c ∧ Q (.bool c) s') → wpAny (model prog w) A (match some v with
        | some .notImplemented | none => pure none
        | some v => pure (some v)) (fun r s' => ∃ v, r = some v ∧ Q v s') E s' := fun v s' ⟨c, e, q⟩ => by
      subst e
      exact wpAny_pure ⟨_, rfl, q⟩
    refine wpAny_bind (wpAny_askSetting (wpAny_ite ?_))
    split
    · exact wpAny_bind (wpAny_pure (wpAny_pure (fin last)))
    · exact wpAny_tryCatch (wpAny_bind (wpAny_pure (wpAny_pure (fin last))))
  unfold richCompare
  simp only [oneThing_ref]
  refine wpAny_holding (wpAny_bind (wpAny_cRoomFor (Nat.lt_of_succ_lt hu) ?_))
  refine wpAny_bind (I.type.here (wpAny_bind (hb.here ?_)))
  split
  · rename_i q
    have e : subIn K tb (.ref C) = some false := by
      rcases Bool.or_eq_true_iff.mp hn with e | e
      · rw [beq_iff_eq.mp e] at q; simp at q
      · exact beq_iff_eq.mp e
    refine wpAny_bind ((looks_subIn X e).here ?_)
    simp only [Bool.false_eq_true, if_false]
    refine wpAny_bind (wpAny_mono one (fun r s' z => ?_) fun _ _ e => e)
    obtain ⟨v, rfl, hq⟩ := z
    exact wpAny_pure hq
  · refine wpAny_bind (wpAny_pure ?_)
    simp only [Bool.false_eq_true, if_false]
    refine wpAny_bind (wpAny_mono one (fun r s' z => ?_) fun _ _ e => e)
    obtain ⟨v, rfl, hq⟩ := z
    exact wpAny_pure hq
end
section
variable {X : Cx} {W : We} {a b e o : Expr} {es : List Expr} {fa fb fo : EF} {ga gk : AF} {pos apos : Pos} {sem base : D → D → Sto → Res D} {k c np : Nat} {g C : Addr} {F : FF} {ps ks : List Str} {dvs : List V} {dds : List D} {arr : List (Nat × Nat)} {kws : List Keyword}
def dNotB (d : D) (st : Sto) : Res D := match d with
  | .bl b => .ok (.bl !b) st
  | _ => .bad
def dOwnNe (c : Nat) (F : FF) (n : Nat) (base : D → D → Sto → Res D) : D → D → Sto → Res D := fun x y st => match insOf c x st with
  | some _ => if okEq c y st = true then (cF F n [] [x, y] st).bind dNotB else .bad
  | none => base x y st
/-- what the class must be for != by its == -/
structure NeC (K : PySem.W.Frag) (C : Addr) : Prop where
  ne : PySem.W.findIn K (.ref C) "__ne__" = some (some (.builtin "object.__ne__"))
  so : PySem.W.subIn K (.ref C) (.type "object") = some true
theorem run_meth1 {σ : St} {Q : VK} {pins : List (Addr × Obj)} {a : Addr} {us : List Value} {s2 : Shared} {m2 : Hw} {l : List D} {vs : List V} {st2 : Sto} {d : D} (h : DefOk X.prog X.w X.K X.mg X.base k g ps [] F) (hr : Room k X.A.in1) (tk : Takes X W.w) (q1 : Rep X.K X.mg m2.r m2.g d (.ref a))
    (I2 : Inv X pins σ m2.h s2) (rv2 : Vals vs us) (r2 : Rel X.K X.mg m2 st2) (q2 : Reps X.K X.mg m2.r m2.g l vs) (hp2 : Post X.K X.mg W.w m2 σ (RD X.K X.mg) Q (cF F ps.length [] (d :: l) st2)) :
    wpAny (model X.prog X.w) X.A.in1 (call (.ref g) (Value.ref a :: us)) (EP X pins σ Q) X.xe s2 := by
  obtain ⟨⟨fd, h1, h2, _⟩, h3⟩ := h
  obtain ⟨ds, dv, bb⟩ := h2 0 (Nat.zero_le _)
  cases dv
  unfold cF at hp2
  split at hp2
  · rename_i hl
    have rr : Vals (V.ref a :: vs) (Value.ref a :: us) := .cons rfl rv2
    have hlen : (Value.ref a :: us).length = ps.length := by
      rw [← rr.length]
      have z := q2.length
      simp at hl ⊢
      omega
    refine wpAny_call (codeAny_mono (h1.run X.A.in1 X.stack s2 m2.h ⟨Value.ref a :: us, []⟩ (Value.ref a :: us) (V.ref a :: vs) Q (WE W.w σ) hr I2.env0.in1 (by simpa using bb s2 (Value.ref a :: us) I2.kIn (by simpa using hlen)) rr
      ⟨m2, _, st2, rfl, r2, by simpa using Reps.cons q1 q2, hl, hp2.conv⟩) fun r s' hq => ?_)
    cases r with
    | error e => exact passAt tk σ pins _ _ e s' I2 hq
    | ok fl =>
      cases fl with
      | ret u => exact I2.after hq
      | next => exact False.elim hq
      | brk => exact False.elim hq
      | cont => exact False.elim hq
  · exact False.elim hp2
theorem BinS.ownNe (h : DefOk X.prog X.w X.K X.mg X.base k g ps [] F) (hr : Room (k + 1) X.A) (tk : Takes X W.w) (hc : X.mg (cName c) = some (.ref C)) (hme : Meth X.K C "__eq__" g) (hn : NeC X.K C) (nt : ∀ t ∈ eqTys, PySem.W.subIn X.K (.type t) (.ref C) = some false) (hb : BinS X W (compareOp .NotEq) base) :
    BinS X W (compareOp .NotEq) (dOwnNe c F ps.length base) := by
  intro pins s σ m st x y xv yv v u Q I rx ry rm qx qy hp
  unfold dOwnNe at hp
  split at hp
  · rename_i l1 e1
    split at hp
    · rename_i ho
      obtain ⟨a, ox, od, rfl, J, _⟩ := inst_of I hc rm qx e1
      obtain rfl : v = Value.ref a := rx
      obtain ⟨tb, L, hnf⟩ := looks_eq I hc nt rm qy ry ho
      obtain ⟨mm, hF⟩ := I.fr
      show wpAny _ _ (richCompare .NotEq (.ref a) u) _ _ _
      have hu : X.A.units + 1 < cLine := by
        have := hr.in1.units0
        exact this
      refine ne_viaEq hu hF I.ok.mod.kin J L hnf hn.ne hn.so hme.at_ hme.fn (wpAny_mono (run_meth1 (us := [u]) (vs := [yv]) (Q := fun w H3 => ∃ b, w = .bl b ∧ Q (.bl !b) H3) h hr.in1 tk qx I (.cons ry .nil) rm (.one qy) (hp.bindc fun m1 d w st1 e1 r1 q1 hp1 => ?_)) (fun w' s' z => ?_) fun _ _ z => z)
      · unfold dNotB at hp1
        split at hp1
        · cases q1
          exact ⟨_, rfl, hp1.okc r1 (.bl _)⟩
        · exact False.elim hp1
      · obtain ⟨z', H', I', rz, b, rfl, qz⟩ := z
        cases (show w' = Value.bool b from rz)
        exact ⟨b, rfl, .bl !b, H', I', rfl, qz⟩
    · exact False.elim hp
  · exact hb pins s σ m st x y xv yv v u Q I rx ry rm qx qy hp
/-! own call -/
theorem callO_kw0 {M : Model} {A : Around} {E : Value → Shared → Prop} {s : Shared} {a : Addr} {pos : Pos} {env : Env} {Q : Value → Shared → Prop} (hall : (backToKw pos (keywordEach kws env)).all (·.1.isSome) = true)
    (hpl : ((backTo pos (starEach [] env)).any (·.1) || (backToKw pos (keywordEach kws env)).any (·.1.isNone)) = false)
    (h : wpAny M A (evalAll ((backToKw pos (keywordEach kws env)).map (·.2))) (fun ks s₁ => (∃ C ox od, PySem.W.InstAt s₁.heap a ox C od ∧ ox.data = .plain) ∧ wpAny M A (call (.ref a) [] (((backToKw pos (keywordEach kws env)).filterMap (·.1)).zip ks)) Q E s₁) E s) :
    wpAny M A (callWith pos (.ref a) [] (backTo pos (starEach [] env)) (backToKw pos (keywordEach kws env))) Q E s := by
  unfold callWith
  have h' : wpAny M A (evalArgs (.ref a) true (backTo pos (starEach [] env)) (backToKw pos (keywordEach kws env))) (fun z s₁ => (∃ C ox od, PySem.W.InstAt s₁.heap a ox C od ∧ ox.data = .plain) ∧ wpAny M A (call (.ref a) z.pos z.kw) Q E s₁) E s := PyProof.Rows.evalArgs_kw2_nil hall h
  refine wpAny_bind (wpAny_holding (wpAny_mono h' (fun z s₁ h₁ => wpAny_bind (wpAny_standAt ?_)) fun _ _ y => y))
  obtain ⟨⟨C, ox, od, J, hd⟩, h₁⟩ := h₁
  have L := PySem.W.kco_keeper (M := M) J hd
  simp only [hpl]
  refine wpAny_bind (L.here ?_)
  have tail : ∀ {t : Sem Value}, wpAny M A t Q E s₁ → wpAny M A (t >>= fun r => holding [r] point >>= fun _ => pure r) Q E s₁ :=
    fun ht => wpAny_bind (wpAny_mono ht (fun r s₂ hr => wpAny_bind (wpAny_holding (wpAny_point (wpAny_pure hr)))) fun _ _ y => y)
  exact tail (wpAny_operateT h₁)
theorem run_code {σ : St} {Q : VK} {pins : List (Addr × Obj)} {us ws : List Value} {s2 : Shared} {m2 : Hw} {l z : List D} {vs zs : List V} {st2 : Sto} (h : DefKw X.prog X.w X.K X.mg X.base k g ps dvs F np ks arr) (hd : ∀ r G, Reps X.K X.mg r G dds dvs) (hr : Room k X.A) (tk : Takes X W.w)
    (I2 : Inv X pins σ m2.h s2) (rv : Vals vs us) (rz : Vals zs ws) (r2 : Rel X.K X.mg m2 st2) (q2 : Reps X.K X.mg m2.r m2.g l vs) (qz : Reps X.K X.mg m2.r m2.g z zs) (hp2 : Post X.K X.mg W.w m2 σ (RD X.K X.mg) Q (cK F ps.length np ks.length arr dds l z st2)) :
    codeAny (model X.prog X.w) X.A (.call (.ref g) ⟨us, ks.zip ws⟩) (fun r s' => match r with | .ok (.ret v) => EP X pins σ Q v s' | .ok _ => False | .error e => X.xe e s') s2 := by
  obtain ⟨fd, its, hF, hv, hb, _⟩ := h
  unfold cK at hp2
  split at hp2
  · rename_i hl
    obtain ⟨l1, l2, l3⟩ := hl
    refine codeAny_mono (hF.run X.A X.stack s2 m2.h ⟨us, ks.zip ws⟩ (pick arr us its ws) (pick arr vs dvs zs) Q (WE W.w σ) hr I2.env0 (hb.to s2 us ws I2.kIn (by rw [← rv.length, ← q2.length]; exact l1) (by rw [← rz.length, ← qz.length]; exact l2)) (pick_vals rv hv rz arr)
      ⟨m2, _, st2, rfl, r2, pick_reps q2 (hd _ _) qz arr, l3, hp2.conv⟩) fun r s' hq => ?_
    cases r with
    | error e => exact passAt tk σ pins _ _ e s' I2 hq
    | ok fl =>
      cases fl with
      | ret u => exact I2.after hq
      | next => exact False.elim hq
      | brk => exact False.elim hq
      | cont => exact False.elim hq
  · exact False.elim hp2
/-- o(k = v, ..) of an instance -/
def isObj : D → Bool
  | .ins _ _ => true
  | .loc _ => true
  | _ => false
theorem isObj_ref {r : List Addr} {G : Hp} {x : D} {v : V} (h : isObj x = true) (q : Rep X.K X.mg r G x v) : ∃ a, v = .ref a := by
  cases x <;> first | (exact Bool.noConfusion h) | skip
  · cases q; exact ⟨_, rfl⟩
  · cases q; exact ⟨_, rfl⟩
@[simp] def fOcallK (c : Nat) (sem : List D → List D → Sto → Res D) (fo : EF) (gk : AF) : EF := fun sg st => (fo sg st).bind fun x st1 => if isObj x = true then ((gk sg st1).bind fun z st2 => match insOf c x st2 with
  | some _ => sem [x] z st2
  | none => .bad) else .bad
theorem se_ocallK {c : Nat} (h : DefKw X.prog X.w X.K X.mg X.base k g ps dvs F np ks arr) (hd : ∀ r G, Reps X.K X.mg r G dds dvs) (hr : Room k X.A) (tk : Takes X W.w) (hc : X.mg (cName c) = some (.ref C)) (co : StX.CallO X.K C g) (ho : SE X W o fo) (hk : SK X W kws gk)
    (hall : (backToKw pos (keywordEach kws X.env)).all (·.1.isSome) = true := by rfl) (hks : (backToKw pos (keywordEach kws X.env)).filterMap (·.1) = ks := by rfl)
    (hpl : ((backTo pos (starEach [] X.env)).any (·.1) || (backToKw pos (keywordEach kws X.env)).any (·.1.isNone)) = false := by rfl)
    (ht : eval (.Call o [] kws pos) X.env = (do callWith pos (← eval o X.env) [] (backTo pos (starEach [] X.env)) (backToKw pos (keywordEach kws X.env))) := by rfl) :
    SE X W (.Call o [] kws pos) (fOcallK c (cK F ps.length np ks.length arr dds) fo gk) := by
  refine ⟨fun pins s σ H Q I hq => ?_⟩
  obtain ⟨w, sg, st, rfl, rm, rs, hp⟩ := hq
  rw [ht]
  refine wpAny_bind (thn (ho.run pins s σ w.h (MPost X W σ sg Q fun x st1 => if isObj x = true then ((gk sg st1).bind fun z st2 => match insOf c x st2 with
    | some _ => cK F ps.length np ks.length arr dds [x] z st2
    | none => .bad) else .bad) I ⟨w, sg, st, rfl, rm, rs, hp.bindc fun m1 x v st1 e1 r1 q1 hp1 => ⟨m1, x, st1, rfl, r1, rs.mono e1, q1, hp1⟩⟩) fun u s1 hh => ?_)
  obtain ⟨v, H1, I1, rv, m1, x, st1, rfl, r1, rs1, q1, hp1⟩ := hh
  dsimp only at hp1
  split at hp1
  · rename_i hob
    obtain ⟨a, rfl⟩ := isObj_ref hob q1
    obtain rfl : u = Value.ref a := rv
    refine callO_kw0 hall hpl (thn (hk.run pos pins s1 σ m1.h (fun zs H3 => ∃ m3 z st3, m3.h = H3 ∧ Ext m1 m3 ∧ Rel X.K X.mg m3 st3 ∧ Reps X.K X.mg m3.r m3.g z zs ∧ Post X.K X.mg W.w m3 σ (RD X.K X.mg) Q (match insOf c x st3 with
      | some _ => cK F ps.length np ks.length arr dds [x] z st3
      | none => .bad)) I1
      ⟨m1, sg, st1, rfl, r1, rs1, Post.bindc (x := gk sg st1) hp1 fun m3 z zs st3 e3 r3 q3 hp3 => ⟨m3, z, st3, rfl, e3, r3, q3, hp3⟩⟩) fun ws s2 hz => ?_)
    obtain ⟨zs, H3, I3, rz, m3, z, st3, rfl, e3, r3, q3, hp3⟩ := hz
    split at hp3
    · rename_i l hl
      obtain ⟨a', ox, od, ea, J, hd'⟩ := inst_of I3 hc r3 (q1.mono e3) hl
      cases ea
      refine ⟨⟨C, ox, od, J, hd'⟩, ?_⟩
      rw [hks]
      exact wpAny_call (PySem.W.kco_code I3.kIn J hd' co.at_ co.fn co.fi (run_code (us := [.ref a]) (vs := [.ref a]) h hd hr tk I3 (.cons rfl .nil) rz r3 (.one (q1.mono e3)) q3 hp3))
    · exact False.elim hp3
  · exact False.elim hp1
/-- o(e, ..) of an instance -/
@[simp] def fOcall (c : Nat) (sem : List D → Sto → Res D) (fo : EF) (ga : AF) : EF := fun sg st => (fo sg st).bind fun x st1 => if isObj x = true then ((ga sg st1).bind fun l st2 => match insOf c x st2 with
  | some _ => sem (x :: l) st2
  | none => .bad) else .bad
theorem cF_cK {l : List D} {st : Sto} {n : Nat} : cF F n [] l st = if l.length = n then F l st else .bad := by unfold cF; simp
theorem run_meth0 {σ : St} {Q : VK} {pins : List (Addr × Obj)} {us : List Value} {s2 : Shared} {m2 : Hw} {l : List D} {vs : List V} {st2 : Sto} (h : DefOk X.prog X.w X.K X.mg X.base k g ps [] F) (hr : Room k X.A) (tk : Takes X W.w)
    (I2 : Inv X pins σ m2.h s2) (rv2 : Vals vs us) (r2 : Rel X.K X.mg m2 st2) (q2 : Reps X.K X.mg m2.r m2.g l vs) (hp2 : Post X.K X.mg W.w m2 σ (RD X.K X.mg) Q (cF F ps.length [] l st2)) :
    codeAny (model X.prog X.w) X.A (.call (.ref g) ⟨us, []⟩) (fun r s' => match r with | .ok (.ret v) => EP X pins σ Q v s' | .ok _ => False | .error e => X.xe e s') s2 := by
  obtain ⟨⟨fd, h1, h2, _⟩, h3⟩ := h
  obtain ⟨ds, dv, bb⟩ := h2 0 (Nat.zero_le _)
  cases dv
  rw [cF_cK] at hp2
  split at hp2
  · rename_i hl
    have hlen : us.length = ps.length := by rw [← rv2.length, ← q2.length]; exact hl
    refine codeAny_mono (h1.run X.A X.stack s2 m2.h ⟨us, []⟩ us vs Q (WE W.w σ) hr I2.env0 (by simpa using bb s2 us I2.kIn (by simpa using hlen)) rv2 ⟨m2, l, st2, rfl, r2, q2, hl, hp2.conv⟩) fun r s' hq => ?_
    cases r with
    | error e => exact passAt tk σ pins _ _ e s' I2 hq
    | ok fl =>
      cases fl with
      | ret u => exact I2.after hq
      | next => exact False.elim hq
      | brk => exact False.elim hq
      | cont => exact False.elim hq
  · exact False.elim hp2
theorem se_ocall {c : Nat} (h : DefOk X.prog X.w X.K X.mg X.base k g ps [] F) (hr : Room k X.A) (tk : Takes X W.w) (hc : X.mg (cName c) = some (.ref C)) (co : StX.CallO X.K C g) (ho : SE X W o fo) (ha : SA X W (e :: es) ga)
    (ht : eval (.Call o (e :: es) [] pos) X.env = (do callWith pos (← eval o X.env) [] (backTo pos (starEach (e :: es) X.env)) (backToKw pos (keywordEach [] X.env))) := by rfl)
    (he : starEach (e :: es) X.env = (false, eval e X.env) :: starEach es X.env := by rfl) (hpl : (backTo pos (starEach es X.env)).any (·.1) = false := by rfl) :
    SE X W (.Call o (e :: es) [] pos) (fOcall c (cF F ps.length []) fo ga) := by
  refine ⟨fun pins s σ H Q I hq => ?_⟩
  obtain ⟨w, sg, st, rfl, rm, rs, hp⟩ := hq
  refine PyProof.Rows.Call_ (thn (ho.run pins s σ w.h (MPost X W σ sg Q fun x st1 => if isObj x = true then ((ga sg st1).bind fun z st2 => match insOf c x st2 with
    | some _ => cF F ps.length [] (x :: z) st2
    | none => .bad) else .bad) I ⟨w, sg, st, rfl, rm, rs, hp.bindc fun m1 x v st1 e1 r1 q1 hp1 => ⟨m1, x, st1, rfl, r1, rs.mono e1, q1, hp1⟩⟩) fun u s1 hh => ?_) ht
  obtain ⟨v, H1, I1, rv, m1, x, st1, rfl, r1, rs1, q1, hp1⟩ := hh
  dsimp only at hp1
  split at hp1
  · rename_i hob
    obtain ⟨a, rfl⟩ := isObj_ref hob q1
    obtain rfl : u = Value.ref a := rv
    refine StX.callO_with (thn (ha.run pos pins s1 σ m1.h (fun zs H3 => ∃ m3 z st3, m3.h = H3 ∧ Ext m1 m3 ∧ Rel X.K X.mg m3 st3 ∧ Reps X.K X.mg m3.r m3.g z zs ∧ Post X.K X.mg W.w m3 σ (RD X.K X.mg) Q (match insOf c x st3 with
      | some _ => cF F ps.length [] (x :: z) st3
      | none => .bad)) I1
      ⟨m1, sg, st1, rfl, r1, rs1, Post.bindc (x := ga sg st1) hp1 fun m3 z zs st3 e3 r3 q3 hp3 => ⟨m3, z, st3, rfl, e3, r3, q3, hp3⟩⟩) fun ws s2 hz => ?_) he hpl
    obtain ⟨zs, H3, I3, rz, m3, z, st3, rfl, e3, r3, q3, hp3⟩ := hz
    split at hp3
    · rename_i l hl
      obtain ⟨a', ox, od, ea, J, hd'⟩ := inst_of I3 hc r3 (q1.mono e3) hl
      cases ea
      exact ⟨⟨C, ox, od, J, hd'⟩, wpAny_call (PySem.W.kco_code I3.kIn J hd' co.at_ co.fn co.fi (run_meth0 (us := .ref a :: ws) (vs := .ref a :: zs) h hr tk I3 (.cons rfl rz) r3 (.cons (q1.mono e3) q3) hp3))⟩
    · exact False.elim hp3
  · exact False.elim hp1
/-! methods of built-in values -/
theorem tyV_of {m : Hw} {st : Sto} {d : D} {v : V} {t : String} (rm : Rel X.K X.mg m st) (h : Rep X.K X.mg m.r m.g d v) (e : tyD d st = some t) (ht : t = "list" ∨ t = "str" ∨ t = "int" ∨ t = "dict") : tyV X.K t v m.h := by
  unfold tyD at e
  split at e
  · cases e; simp at ht
  · cases e; simp at ht
  · cases h; cases e; exact rfl
  · cases h; cases e; exact rfl
  · cases e; simp at ht
  · cases e
    cases h with
    | lst h1 h2 => exact .inl ⟨rfl, _, SqL.of (rm.sub _ _ h1)⟩
  · cases e
    cases h with
    | edict h1 => exact .inr (.inr (.inl ⟨rfl, .inl ⟨_, rm.sub _ _ h1⟩⟩))
  · cases h with
    | loc h1 =>
      split at e
      · rename_i l h2
        cases e
        obtain ⟨vs, h3, _⟩ := rm.obj _ _ _ h1 h2
        exact .inl ⟨rfl, _, SqL.of h3⟩
      · rename_i l h2
        cases e
        obtain ⟨vs, h3, _⟩ := rm.obj _ _ _ h1 h2
        exact .inr (.inr (.inl ⟨rfl, .inl ⟨_, h3⟩⟩))
      · cases e
  · cases e
def FitsM (X : Cx) (W : We) (r : V → List V → Hp → VK → Prop) (sem : D → List D → Sto → Res D) : Prop :=
  ∀ (m : Hw) (st : Sto) (σ : St) (x : D) (v : V) (l : List D) (vs : List V) (Q : VK), Rel X.K X.mg m st → Rep X.K X.mg m.r m.g x v → Reps X.K X.mg m.r m.g l vs → Post X.K X.mg W.w m σ (RD X.K X.mg) Q (sem x l st) → r v vs m.h Q
@[simp] def fBM (T : String) (sem : D → List D → Sto → Res D) (fo : EF) (ga : AF) : EF := fun sg st => (fo sg st).bind fun x st1 => if tyD x st1 = some T then ((ga sg st1).bind fun l st2 => sem x l st2) else .bad
variable {T id : String} {r : V → List V → Hp → VK → Prop} {name : Str} {semM : D → List D → Sto → Res D}
theorem se_bm (pa : PlainAttrs T) (slot : Slot T name id) (hty : typeOf (.builtin id) = pure (.type "method_descriptor")) (hm : MtR X id r) (fits : FitsM X W r semM) (hT : T = "list" ∨ T = "str" ∨ T = "int" ∨ T = "dict") (ho : SE X W o fo) (ha : SA X W (e :: es) ga)
    (hbase : attributeBase o name X.env (eval o X.env) = eval o X.env := by rfl)
    (hfew : ((backTo pos (starEach (e :: es) X.env)).all (fun x => !x.1) && (backToKw pos (keywordEach [] X.env)).all (fun x => x.1.isSome)
      && decide ((e :: es).length + ([] : List Keyword).length + (if ([] : List Keyword).isEmpty then 0 else 1) < 30)) = true := by rfl)
    (hline : (apos.endLine == pos.line) = true := by rfl) (hs : starEach (e :: es) X.env = (false, eval e X.env) :: starEach es X.env := by rfl) (hplain : (backTo pos (starEach es X.env)).any (·.1) = false := by rfl) :
    SE X W (.Call (.Attribute o name apos) (e :: es) [] pos) (fBM T semM fo ga) :=
  pe_weak (pe_bm pa slot hty hm ho ha hbase hfew hline hs hplain) fun σ H Q ⟨m, sg, st, e, rm, rs, hp⟩ => ⟨m, sg, st, e, rm, rs, hp.bindc fun m1 x v st1 e1 r1 q1 hp1 => by
    split at hp1
    · rename_i ht
      exact ⟨tyV_of r1 q1 ht hT, m1, sg, st1, rfl, r1, rs.mono e1, hp1.bindc fun m2 l vs st2 e2 r2 q2 hp2 => fits m2 st2 σ x v l vs Q r2 (q1.mono e2) q2 hp2⟩
    · exact False.elim hp1⟩
theorem se_bm0 (pa : PlainAttrs T) (slot : Slot T name id) (hty : typeOf (.builtin id) = pure (.type "method_descriptor")) (hm : MtR X id r) (fits : FitsM X W r semM) (hT : T = "list" ∨ T = "str" ∨ T = "int" ∨ T = "dict") (ho : SE X W o fo)
    (hbase : attributeBase o name X.env (eval o X.env) = eval o X.env := by rfl) (hline : (apos.endLine == pos.line) = true := by rfl) :
    SE X W (.Call (.Attribute o name apos) [] [] pos) (fBM T semM fo aNil) :=
  pe_weak (pe_bm0 pa slot hty hm ho hbase hline) fun σ H Q ⟨m, sg, st, e, rm, rs, hp⟩ => ⟨m, sg, st, e, rm, rs, hp.bindc fun m1 x v st1 e1 r1 q1 hp1 => by
    split at hp1
    · rename_i ht
      exact ⟨tyV_of r1 q1 ht hT, fits m1 st1 σ x v [] [] Q r1 q1 .nil hp1⟩
    · exact False.elim hp1⟩
/-- xs.append(e) -/
def mApp (x : D) (l : List D) (st : Sto) : Res D := match x, l with
  | .loc n, [d] => match st[n]? with
    | some (.lst xs) => if xs.length < 16777216 then .ok .non (st.set n (.lst (xs ++ [d]))) else .bad
    | _ => .bad
  | _, _ => .bad
theorem fits_app : FitsM X W rAppend mApp := by
  intro m st σ x v l vs Q rm q ql hp
  unfold mApp at hp
  split at hp
  · split at hp
    · rename_i xs hx
      split at hp
      · rename_i hl
        cases q with
        | loc h1 =>
          obtain ⟨ys, h2, h3⟩ := rm.obj _ _ _ h1 hx
          cases ql with
          | cons k1 k2 =>
            cases k2
            refine ⟨_, ys, _, rfl, rfl, h2, by rw [← h3.length]; exact hl, ?_⟩
            exact hp (m.put _ (.lst (ys ++ [_]))) .non (Ext.put (List.mem_of_getElem? h1)) (rm.put h1 ⟨_, upd_same, h3.append (.one k1)⟩) .non
      · exact False.elim hp
    · exact False.elim hp
  · exact False.elim hp
end
/-! the facts -/
def bNt (x : Str) (K : PySem.W.Frag) : Bool := eqTys.all fun t => decide (PySem.W.subIn K (.type t) (.ref (ga K x)) = some false)
theorem nt_ok {K : PySem.W.Frag} {x : Str} (h : bNt x K = true) : ∀ t ∈ eqTys, PySem.W.subIn K (.type t) (.ref (ga K x)) = some false := fun t ht => of_decide_eq_true (List.all_eq_true.mp h t ht)
def bNe (x : Str) (K : PySem.W.Frag) : Bool := decide (PySem.W.findIn K (.ref (ga K x)) "__ne__" = some (some (.builtin "object.__ne__"))) && decide (PySem.W.subIn K (.ref (ga K x)) (.type "object") = some true)
theorem ne_ok {K : PySem.W.Frag} {x : Str} (h : bNe x K = true) : NeC K (ga K x) := by
  obtain ⟨h1, h2⟩ := Bool.and_eq_true_iff.mp h
  exact ⟨of_decide_eq_true h1, of_decide_eq_true h2⟩
def bCallO (x : Str) (K : PySem.W.Frag) : Bool := decide (PySem.W.findIn K (.ref (ga K x)) "__call__" = some (some (.ref (ma K (ga K x) "__call__")))) && (PySem.W.isFn K (.ref (ma K (ga K x) "__call__")) && PySem.W.fnIn K (ma K (ga K x) "__call__"))
theorem callO_ok {K : PySem.W.Frag} {x : Str} (h : bCallO x K = true) : StX.CallO K (ga K x) (ma K (ga K x) "__call__") := by
  obtain ⟨h1, h⟩ := Bool.and_eq_true_iff.mp h
  obtain ⟨h2, h3⟩ := Bool.and_eq_true_iff.mp h
  exact ⟨of_decide_eq_true h1, h2, h3⟩
end Sh
/-! the text by places; what each def means (F_); that it does (ok_). Printed by gen.py, a program of mine. -/
namespace Law
open PySem L2 Sh He
def top (i : Nat) : Stmt := PySem.Challenge.pw_roundline_k41_whole_sums_of_forms.main.body.getD i (.Pass ⟨0, 0, 0, 0⟩)
abbrev s_law_pot : Stmt := top 15
abbrev s_law_dip : Stmt := top 16
abbrev s_law_number : Stmt := top 17
abbrev s_law_form : Stmt := top 18
abbrev s_is_whole : Stmt := top 7
abbrev s_common_divisor : Stmt := top 9
abbrev s_Form_init : Stmt := inClass (top 11) 0
abbrev s_Form_parts : Stmt := inClass (top 11) 7
abbrev s_Form_eq : Stmt := inClass (top 11) 2
abbrev s_law_same : Stmt := top 19
abbrev s_form_of : Stmt := top 12
abbrev s_parts_of : Stmt := top 13
abbrev s_Form_add : Stmt := inClass (top 11) 3
abbrev s_Form_neg : Stmt := inClass (top 11) 5
abbrev s_Form_sub : Stmt := inClass (top 11) 4
abbrev s_Form_mul : Stmt := inClass (top 11) 6
abbrev s_Form_call : Stmt := inClass (top 11) 1
abbrev s_law_right : Stmt := top 20
abbrev s_law : Stmt := top 21
end Law
namespace Law
open PySem Sh
noncomputable def g_law_pot : SF := (sSeq (sSet 2 (fC (.int 0))) (sSeq (sIf (tOfE (fBin dLt (fVar 1) (fCall bLen (aCons (fVar 0) aNil)))) (sSet 2 (fCall bAbs (aCons (fCall bInt (aCons (fBin dIx (fVar 0) (fVar 1)) aNil)) aNil))) sNil) (sRet (fNew (aCons (fCall bMax (aCons (fC (.int 0)) (aCons (fBin dSub (fVar 2) (fBin dPow (fC (.int 10)) (fC (.int 18)))) aNil))) (aCons (fBin dAdd (fBin dMod (fCall bInt (aCons (fVar 2) aNil)) (fBin dAdd (fBin dPow (fC (.int 10)) (fC (.int 33))) (fC (.int 33)))) (fBin dMul (fC (.int 524309)) (fVar 1))) (aCons (fC (.int 0)) aNil)))))))
noncomputable def F_law_pot : FF := fnF 3 g_law_pot
noncomputable def g_law_dip : SF := (sSeq (sIf (tOfE (fBin dGt (fBin dIx (fVar 0) (fC (.int 0))) (fC (.int 0)))) (sSeq (sSet 2 (fBin dMod (fCall bInt (aCons (fBin dIx (fVar 0) (fC (.int 0))) aNil)) (fVar 1))) (sSeq (sSub (fVar 0) (fC (.int 0)) (fBin dDiv (fBin dIx (fVar 0) (fC (.int 0))) (fVar 1))) (sRet (fVar 2)))) sNil) (sSeq (sSub (fVar 0) (fC (.int 2)) (fBin dAdd (fBin dIx (fVar 0) (fC (.int 2))) (fC (.int 1)))) (sSeq (sSet 3 (fBin dMod (fCall bInt (aCons (fBin dPow (fBin dAdd (fBin dIx (fVar 0) (fC (.int 1))) (fBin dMul (fC (.int 86028121)) (fBin dIx (fVar 0) (fC (.int 2))))) (fC (.int 3))) aNil)) (fBin dAdd (fBin dPow (fC (.int 10)) (fC (.int 41))) (fC (.int 9))))) (sSeq (sSet 3 (fBin dMod (fCall bInt (aCons (fBin dPow (fBin dAdd (fVar 3) (fBin dMul (fC (.int 179424673)) (fBin dIx (fVar 0) (fC (.int 2))))) (fC (.int 3))) aNil)) (fBin dAdd (fBin dPow (fC (.int 10)) (fC (.int 39))) (fC (.int 57))))) (sRet (fBin dMod (fCall bInt (aCons (fBin dDiv (fVar 3) (fBin dPow (fC (.int 10)) (fC (.int 7)))) aNil)) (fVar 1)))))))
noncomputable def F_law_dip : FF := fnF 4 g_law_dip
noncomputable def g_law_number : SF := (sSeq (sSet 1 (fBin dIx (fLst (aCons (fCall (cF F_law_dip 2 []) (aCons (fVar 0) (aCons (fC (.int 8)) aNil))) (aCons (fCall (cF F_law_dip 2 []) (aCons (fVar 0) (aCons (fC (.int 60)) aNil))) (aCons (fCall (cF F_law_dip 2 []) (aCons (fVar 0) (aCons (fBin dPow (fC (.int 10)) (fC (.int 40))) aNil))) aNil)))) (fCall (cF F_law_dip 2 []) (aCons (fVar 0) (aCons (fC (.int 3)) aNil))))) (sRet (fBin dIx (fLst (aCons (fVar 1) (aCons (fUn dNeg (fVar 1)) aNil))) (fCall (cF F_law_dip 2 []) (aCons (fVar 0) (aCons (fC (.int 2)) aNil))))))
noncomputable def F_law_number : FF := fnF 2 g_law_number
noncomputable def g_law_form : SF := (sSeq (sPar 1 2 (aCons (fCall (cF F_law_number 1 []) (aCons (fVar 0) aNil)) (aCons (fCall (cF F_law_number 1 []) (aCons (fVar 0) aNil)) aNil))) (sRet (fTup (aCons (fVar 1) (aCons (fBin dMul (fVar 2) (fCall bInt (aCons (fBin dGt (fCall (cF F_law_dip 2 []) (aCons (fVar 0) (aCons (fC (.int 5)) aNil))) (fC (.int 0))) aNil))) (aCons (fBin dAdd (fC (.int 1)) (fCall (cF F_law_dip 2 []) (aCons (fVar 0) (aCons (fBin dIx (fLst (aCons (fC (.int 1)) (aCons (fC (.int 6)) (aCons (fC (.int 60)) aNil)))) (fCall (cF F_law_dip 2 []) (aCons (fVar 0) (aCons (fC (.int 3)) aNil)))) aNil)))) aNil))))))
noncomputable def F_law_form : FF := fnF 3 g_law_form
noncomputable def g_is_whole : SF := (sRet (fAnd (fIsi (tbl tInt) [] (fVar 0)) (fNot (fIsi (tbl tBool) [] (fVar 0)))))
noncomputable def F_is_whole : FF := fnF 1 g_is_whole
noncomputable def b_common_divisor_0 : SF := (sPar 0 1 (aCons (fVar 1) (aCons (fBin dMod (fVar 0) (fVar 1)) aNil)))
theorem at_b_common_divisor_0 (sg : Sg) (st : Sto) : b_common_divisor_0 sg st = (sPar 0 1 (aCons (fVar 1) (aCons (fBin dMod (fVar 0) (fVar 1)) aNil))) sg st := rfl
noncomputable def g_common_divisor : SF := (sSeq (sPar 0 1 (aCons (fCall bAbs (aCons (fVar 0) aNil)) (aCons (fCall bAbs (aCons (fVar 1) aNil)) aNil))) (sSeq (sWhile fuel (tOfE (fBin dNe (fVar 1) (fC (.int 0)))) b_common_divisor_0) (sRet (fVar 0))))
noncomputable def F_common_divisor : FF := fnF 2 g_common_divisor
noncomputable def g_Form_init : SF := (sSeq (sIf (tOr' (tNot' (tTru (fCall (cF F_is_whole 1 []) (aCons (fVar 1) aNil)))) (tOr' (tNot' (tTru (fCall (cF F_is_whole 1 []) (aCons (fVar 2) aNil)))) (tOr' (tNot' (tTru (fCall (cF F_is_whole 1 []) (aCons (fVar 3) aNil)))) (tOfE (fBin dLt (fVar 3) (fC (.int 1))))))) (fun sg st => .exc 1 none sg st) sNil) (sSeq (sSet 4 (fCall (cF F_common_divisor 2 []) (aCons (fCall (cF F_common_divisor 2 []) (aCons (fVar 1) (aCons (fVar 2) aNil))) (aCons (fVar 3) aNil)))) (sFldS 0 0 (fVar 0) (fTup (aCons (fBin dDiv (fVar 1) (fVar 4)) (aCons (fBin dDiv (fVar 2) (fVar 4)) (aCons (fBin dDiv (fVar 3) (fVar 4)) aNil)))))))
noncomputable def F_Form_init : FF := fnF 5 g_Form_init
noncomputable def g_Form_parts : SF := (sRet (fFld 0 0 (fVar 0)))
noncomputable def F_Form_parts : FF := fnF 1 g_Form_parts
noncomputable def g_Form_eq : SF := (sRet (fAnd (fIsi (tbl tOwn) ((0, true) :: []) (fVar 1)) (fBin dEq (fFld 0 0 (fVar 0)) (fFld 0 0 (fVar 1)))))
noncomputable def F_Form_eq : FF := fnF 2 g_Form_eq
noncomputable def g_law_same : SF := (sSeq (sAsg (.many [4, 5, 6]) (fMeth 0 F_Form_parts 1 [] (fVar 0) aNil)) (sSeq (sIf (tOr' (tNot' (tTru (fIsi (tbl tOwn) ((0, true) :: []) (fVar 0)))) (tOfE (fBin (dOwnNe 0 F_Form_eq 2 (fun _ _ _ => .bad)) (fVar 0) (fCall (mkF 0 F_Form_init 4 []) (aCons (fVar 1) (aCons (fVar 2) (aCons (fVar 3) aNil))))))) (sRet (fC (.bl false))) sNil) (sRet (fAnd (fBin dGt (fVar 6) (fC (.int 0))) (fAnd (fBin dEq (fBin dMul (fVar 4) (fVar 3)) (fBin dMul (fVar 1) (fVar 6))) (fBin dEq (fBin dMul (fVar 5) (fVar 3)) (fBin dMul (fVar 2) (fVar 6))))))))
noncomputable def F_law_same : FF := fnF 7 g_law_same
noncomputable def g_form_of : SF := (sRet (fIfE (tTru (fIsi (tbl tOwn) ((0, true) :: []) (fVar 0))) (fVar 0) (fCall (mkF 0 F_Form_init 4 [.int (0), .int (1)]) (aCons (fVar 0) aNil))))
noncomputable def F_form_of : FF := fnF 1 g_form_of
noncomputable def g_parts_of : SF := (sRet (fMeth 0 F_Form_parts 1 [] (fCall (cF F_form_of 1 []) (aCons (fVar 0) aNil)) aNil))
noncomputable def F_parts_of : FF := fnF 1 g_parts_of
noncomputable def g_Form_add : SF := (sSeq (sAsg (.many [2, 3, 4]) (fFld 0 0 (fVar 0))) (sSeq (sAsg (.many [5, 6, 7]) (fCall (cF F_parts_of 1 []) (aCons (fVar 1) aNil))) (sRet (fCall (mkF 0 F_Form_init 4 []) (aCons (fBin dAdd (fBin dMul (fVar 2) (fVar 7)) (fBin dMul (fVar 5) (fVar 4))) (aCons (fBin dAdd (fBin dMul (fVar 3) (fVar 7)) (fBin dMul (fVar 6) (fVar 4))) (aCons (fBin dMul (fVar 4) (fVar 7)) aNil)))))))
noncomputable def F_Form_add : FF := fnF 8 g_Form_add
noncomputable def g_Form_neg : SF := (sSeq (sAsg (.many [1, 2, 3]) (fFld 0 0 (fVar 0))) (sRet (fCall (mkF 0 F_Form_init 4 []) (aCons (fUn dNeg (fVar 1)) (aCons (fUn dNeg (fVar 2)) (aCons (fVar 3) aNil))))))
noncomputable def F_Form_neg : FF := fnF 4 g_Form_neg
noncomputable def g_Form_sub : SF := (sRet (fBin (dOwnI 0 F_Form_add 2 (fun _ _ _ => .bad)) (fVar 0) (fUn (uOwn 0 F_Form_neg 1 (fun _ _ => .bad)) (fCall (cF F_form_of 1 []) (aCons (fVar 1) aNil)))))
noncomputable def F_Form_sub : FF := fnF 2 g_Form_sub
noncomputable def g_Form_mul : SF := (sSeq (sAsg (.many [2, 3, 4]) (fFld 0 0 (fVar 0))) (sRet (fCall (mkF 0 F_Form_init 4 []) (aCons (fBin dMul (fVar 2) (fVar 1)) (aCons (fBin dMul (fVar 3) (fVar 1)) (aCons (fVar 4) aNil))))))
noncomputable def F_Form_mul : FF := fnF 5 g_Form_mul
noncomputable def g_Form_call : SF := (sSeq (sIf (tOr' (tNot' (tTru (fCall (cF F_is_whole 1 []) (aCons (fVar 1) aNil)))) (tOfE (fBin dLt (fVar 1) (fC (.int 1))))) (fun _ _ => .bad) sNil) (sSeq (sAsg (.many [2, 3, 4]) (fFld 0 0 (fVar 0))) (sSeq (sIf (tOfE (fBin dNe (fBin dMod (fBin dAdd (fVar 2) (fBin dMul (fVar 3) (fVar 1))) (fVar 4)) (fC (.int 0)))) (fun _ _ => .bad) sNil) (sRet (fBin dDiv (fBin dAdd (fVar 2) (fBin dMul (fVar 3) (fVar 1))) (fVar 4))))))
noncomputable def F_Form_call : FF := fnF 5 g_Form_call
noncomputable def b_law_right_0 : EF := (fCall (cF F_law_form 1 []) (aCons (fVar 0) aNil))
theorem at_b_law_right_0 (sg : Sg) (st : Sto) : b_law_right_0 sg st = (fCall (cF F_law_form 1 []) (aCons (fVar 0) aNil)) sg st := rfl
noncomputable def b_law_right_1 : EF := (fCall (mkF 0 F_Form_init 4 []) (aCons (fBin dIx (fVar 4) (fC (.int 0))) (aCons (fBin dIx (fVar 4) (fC (.int 1))) (aCons (fBin dIx (fVar 4) (fC (.int 2))) aNil))))
theorem at_b_law_right_1 (sg : Sg) (st : Sto) : b_law_right_1 sg st = (fCall (mkF 0 F_Form_init 4 []) (aCons (fBin dIx (fVar 4) (fC (.int 0))) (aCons (fBin dIx (fVar 4) (fC (.int 1))) (aCons (fBin dIx (fVar 4) (fC (.int 2))) aNil)))) sg st := rfl
noncomputable def b_law_right_2 : EF := (fMeth 0 F_Form_parts 1 [] (fVar 6) aNil)
theorem at_b_law_right_2 (sg : Sg) (st : Sto) : b_law_right_2 sg st = (fMeth 0 F_Form_parts 1 [] (fVar 6) aNil) sg st := rfl
noncomputable def b_law_right_3 : EF := (fMeth 0 F_Form_parts 1 [] (fVar 6) aNil)
theorem at_b_law_right_3 (sg : Sg) (st : Sto) : b_law_right_3 sg st = (fMeth 0 F_Form_parts 1 [] (fVar 6) aNil) sg st := rfl
noncomputable def b_law_right_4 : EF := (fOcall 0 (cF F_Form_call 2 []) (fVar 6) (aCons (fVar 24) aNil))
theorem at_b_law_right_4 (sg : Sg) (st : Sto) : b_law_right_4 sg st = (fOcall 0 (cF F_Form_call 2 []) (fVar 6) (aCons (fVar 24) aNil)) sg st := rfl
noncomputable def b_law_right_5 : EF := (fOcall 0 (cF F_Form_call 2 []) (fVar 6) (aCons (fVar 24) aNil))
theorem at_b_law_right_5 (sg : Sg) (st : Sto) : b_law_right_5 sg st = (fOcall 0 (cF F_Form_call 2 []) (fVar 6) (aCons (fVar 24) aNil)) sg st := rfl
noncomputable def b_law_right_6 : SF := (sSeq (sSet 24 (fBin dMul (fBin dMul (fVar 11) (fVar 14)) (fBin dAdd (fC (.int 1)) (fCall (cF F_law_dip 2 []) (aCons (fVar 0) (aCons (fC (.int 9)) aNil)))))) (sSeq (sSet 25 (fNew (aCons (fCall (mkF 0 F_Form_init 4 []) (aCons (fBin dMul (fVar 9) (fVar 11)) (aCons (fVar 10) (aCons (fVar 11) aNil)))) aNil))) (sSeq (sDrop (fBM "list" mApp (fVar 25) (aCons (fCall (mkF 0 F_Form_init 4 []) (aCons (fBin dMul (fVar 12) (fVar 14)) (aCons (fVar 13) (aCons (fVar 14) aNil)))) aNil))) (sSeq (sSet 26 (fNew (aCons (fBin dAdd (fVar 9) (fBin dDiv (fBin dMul (fVar 10) (fVar 24)) (fVar 11))) aNil))) (sSeq (sDrop (fBM "list" mApp (fVar 26) (aCons (fBin dAdd (fVar 12) (fBin dDiv (fBin dMul (fVar 13) (fVar 24)) (fVar 14))) aNil))) (sSeq (sIf (tOfE (fBin dNe (fLc [6] (iSeq (fVar 25)) (.one 6) tYesD b_law_right_4) (fVar 26))) (sRet (fC (.bl false))) sNil) (sSeq (sSet 20 (fLst (aCons (fBin (dOwnI 0 F_Form_add 2 (fun _ _ _ => .bad)) (fBin dIx (fVar 25) (fC (.int 0))) (fBin dIx (fVar 25) (fC (.int 1)))) (aCons (fBin (dOwnN 0 F_Form_mul 2 (fun _ _ _ => .bad)) (fBin dIx (fVar 25) (fC (.int 0))) (fVar 8)) aNil)))) (sRet (fBin dEq (fLc [6] (iSeq (fVar 20)) (.one 6) tYesD b_law_right_5) (fLst (aCons (fBin dAdd (fBin dIx (fVar 26) (fC (.int 0))) (fBin dIx (fVar 26) (fC (.int 1)))) (aCons (fBin dMul (fBin dIx (fVar 26) (fC (.int 0))) (fVar 8)) aNil))))))))))))
theorem at_b_law_right_6 (sg : Sg) (st : Sto) : b_law_right_6 sg st = (sSeq (sSet 24 (fBin dMul (fBin dMul (fVar 11) (fVar 14)) (fBin dAdd (fC (.int 1)) (fCall (cF F_law_dip 2 []) (aCons (fVar 0) (aCons (fC (.int 9)) aNil)))))) (sSeq (sSet 25 (fNew (aCons (fCall (mkF 0 F_Form_init 4 []) (aCons (fBin dMul (fVar 9) (fVar 11)) (aCons (fVar 10) (aCons (fVar 11) aNil)))) aNil))) (sSeq (sDrop (fBM "list" mApp (fVar 25) (aCons (fCall (mkF 0 F_Form_init 4 []) (aCons (fBin dMul (fVar 12) (fVar 14)) (aCons (fVar 13) (aCons (fVar 14) aNil)))) aNil))) (sSeq (sSet 26 (fNew (aCons (fBin dAdd (fVar 9) (fBin dDiv (fBin dMul (fVar 10) (fVar 24)) (fVar 11))) aNil))) (sSeq (sDrop (fBM "list" mApp (fVar 26) (aCons (fBin dAdd (fVar 12) (fBin dDiv (fBin dMul (fVar 13) (fVar 24)) (fVar 14))) aNil))) (sSeq (sIf (tOfE (fBin dNe (fLc [6] (iSeq (fVar 25)) (.one 6) tYesD b_law_right_4) (fVar 26))) (sRet (fC (.bl false))) sNil) (sSeq (sSet 20 (fLst (aCons (fBin (dOwnI 0 F_Form_add 2 (fun _ _ _ => .bad)) (fBin dIx (fVar 25) (fC (.int 0))) (fBin dIx (fVar 25) (fC (.int 1)))) (aCons (fBin (dOwnN 0 F_Form_mul 2 (fun _ _ _ => .bad)) (fBin dIx (fVar 25) (fC (.int 0))) (fVar 8)) aNil)))) (sRet (fBin dEq (fLc [6] (iSeq (fVar 20)) (.one 6) tYesD b_law_right_5) (fLst (aCons (fBin dAdd (fBin dIx (fVar 26) (fC (.int 0))) (fBin dIx (fVar 26) (fC (.int 1)))) (aCons (fBin dMul (fBin dIx (fVar 26) (fC (.int 0))) (fVar 8)) aNil)))))))))))) sg st := rfl
noncomputable def b_law_right_7 : SF := (sSeq (sIf (tOr' (tOfE (fBin (dInL false) (fC (.bl false)) (fVar 21))) (tOfE (fBin dNe (fLc [6] (iSeq (fVar 3)) (.one 6) tYesD b_law_right_3) (fVar 5)))) (sRet (fC (.bl false))) sNil) b_law_right_6)
theorem at_b_law_right_7 (sg : Sg) (st : Sto) : b_law_right_7 sg st = (sSeq (sIf (tOr' (tOfE (fBin (dInL false) (fC (.bl false)) (fVar 21))) (tOfE (fBin dNe (fLc [6] (iSeq (fVar 3)) (.one 6) tYesD b_law_right_3) (fVar 5)))) (sRet (fC (.bl false))) sNil) b_law_right_6) sg st := rfl
noncomputable def b_law_right_8 : SF := (sSeq (sDrop (fBM "list" mApp (fVar 21) (aCons (fBin (dOwnE 0 F_Form_eq 2 (fun _ _ _ => .bad)) (fBin (dOwnI 0 F_Form_add 2 (fun _ _ _ => .bad)) (fVar 15) (fVar 16)) (fBin (dOwnI 0 F_Form_add 2 (fun _ _ _ => .bad)) (fVar 16) (fVar 15))) aNil))) (sSeq (sDrop (fBM "list" mApp (fVar 21) (aCons (fBin (dOwnE 0 F_Form_eq 2 (fun _ _ _ => .bad)) (fBin (dOwnI 0 F_Form_add 2 (fun _ _ _ => .bad)) (fBin (dOwnI 0 F_Form_add 2 (fun _ _ _ => .bad)) (fVar 15) (fVar 16)) (fVar 17)) (fBin (dOwnI 0 F_Form_add 2 (fun _ _ _ => .bad)) (fVar 15) (fBin (dOwnI 0 F_Form_add 2 (fun _ _ _ => .bad)) (fVar 16) (fVar 17)))) aNil))) (sSeq (sDrop (fBM "list" mApp (fVar 21) (aCons (fAnd (fBin (dOwnE 0 F_Form_eq 2 (fun _ _ _ => .bad)) (fBin (dOwnI 0 F_Form_add 2 (fun _ _ _ => .bad)) (fBin (dOwnI 0 F_Form_sub 2 (fun _ _ _ => .bad)) (fVar 15) (fVar 16)) (fVar 16)) (fVar 15)) (fBin (dOwnE 0 F_Form_eq 2 (fun _ _ _ => .bad)) (fUn (uOwn 0 F_Form_neg 1 (fun _ _ => .bad)) (fUn (uOwn 0 F_Form_neg 1 (fun _ _ => .bad)) (fVar 15))) (fVar 15))) aNil))) (sSeq (sDrop (fBM "list" mApp (fVar 21) (aCons (fBin (dOwnE 0 F_Form_eq 2 (fun _ _ _ => .bad)) (fBin (dOwnI 0 F_Form_sub 2 (fun _ _ _ => .bad)) (fVar 15) (fVar 15)) (fCall (mkF 0 F_Form_init 4 [.int (0), .int (1)]) (aCons (fC (.int 0)) aNil))) aNil))) (sSeq (sSet 23 (fLst (aCons (fBin (dOwnN 0 F_Form_mul 2 (fun _ _ _ => .bad)) (fVar 15) (fVar 8)) (aCons (fBin (dOwnN 0 F_Form_mul 2 (fun _ _ _ => .bad)) (fVar 16) (fVar 8)) aNil)))) (sSeq (sDrop (fBM "list" mApp (fVar 21) (aCons (fBin (dOwnE 0 F_Form_eq 2 (fun _ _ _ => .bad)) (fBin (dOwnN 0 F_Form_mul 2 (fun _ _ _ => .bad)) (fBin (dOwnI 0 F_Form_add 2 (fun _ _ _ => .bad)) (fVar 15) (fVar 16)) (fVar 8)) (fBin (dOwnI 0 F_Form_add 2 (fun _ _ _ => .bad)) (fBin dIx (fVar 23) (fC (.int 0))) (fBin dIx (fVar 23) (fC (.int 1))))) aNil))) (sSeq (sDrop (fBM "list" mApp (fVar 21) (aCons (fAnd (fBin (dOwnE 0 F_Form_eq 2 (fun _ _ _ => .bad)) (fBin (dOwnN 0 F_Form_mul 2 (fun _ _ _ => .bad)) (fVar 15) (fC (.int 1))) (fVar 15)) (fBin (dOwnE 0 F_Form_eq 2 (fun _ _ _ => .bad)) (fBin (dOwnN 0 F_Form_mul 2 (fun _ _ _ => .bad)) (fVar 15) (fC (.int 0))) (fCall (mkF 0 F_Form_init 4 [.int (0), .int (1)]) (aCons (fC (.int 0)) aNil)))) aNil))) b_law_right_7)))))))
theorem at_b_law_right_8 (sg : Sg) (st : Sto) : b_law_right_8 sg st = (sSeq (sDrop (fBM "list" mApp (fVar 21) (aCons (fBin (dOwnE 0 F_Form_eq 2 (fun _ _ _ => .bad)) (fBin (dOwnI 0 F_Form_add 2 (fun _ _ _ => .bad)) (fVar 15) (fVar 16)) (fBin (dOwnI 0 F_Form_add 2 (fun _ _ _ => .bad)) (fVar 16) (fVar 15))) aNil))) (sSeq (sDrop (fBM "list" mApp (fVar 21) (aCons (fBin (dOwnE 0 F_Form_eq 2 (fun _ _ _ => .bad)) (fBin (dOwnI 0 F_Form_add 2 (fun _ _ _ => .bad)) (fBin (dOwnI 0 F_Form_add 2 (fun _ _ _ => .bad)) (fVar 15) (fVar 16)) (fVar 17)) (fBin (dOwnI 0 F_Form_add 2 (fun _ _ _ => .bad)) (fVar 15) (fBin (dOwnI 0 F_Form_add 2 (fun _ _ _ => .bad)) (fVar 16) (fVar 17)))) aNil))) (sSeq (sDrop (fBM "list" mApp (fVar 21) (aCons (fAnd (fBin (dOwnE 0 F_Form_eq 2 (fun _ _ _ => .bad)) (fBin (dOwnI 0 F_Form_add 2 (fun _ _ _ => .bad)) (fBin (dOwnI 0 F_Form_sub 2 (fun _ _ _ => .bad)) (fVar 15) (fVar 16)) (fVar 16)) (fVar 15)) (fBin (dOwnE 0 F_Form_eq 2 (fun _ _ _ => .bad)) (fUn (uOwn 0 F_Form_neg 1 (fun _ _ => .bad)) (fUn (uOwn 0 F_Form_neg 1 (fun _ _ => .bad)) (fVar 15))) (fVar 15))) aNil))) (sSeq (sDrop (fBM "list" mApp (fVar 21) (aCons (fBin (dOwnE 0 F_Form_eq 2 (fun _ _ _ => .bad)) (fBin (dOwnI 0 F_Form_sub 2 (fun _ _ _ => .bad)) (fVar 15) (fVar 15)) (fCall (mkF 0 F_Form_init 4 [.int (0), .int (1)]) (aCons (fC (.int 0)) aNil))) aNil))) (sSeq (sSet 23 (fLst (aCons (fBin (dOwnN 0 F_Form_mul 2 (fun _ _ _ => .bad)) (fVar 15) (fVar 8)) (aCons (fBin (dOwnN 0 F_Form_mul 2 (fun _ _ _ => .bad)) (fVar 16) (fVar 8)) aNil)))) (sSeq (sDrop (fBM "list" mApp (fVar 21) (aCons (fBin (dOwnE 0 F_Form_eq 2 (fun _ _ _ => .bad)) (fBin (dOwnN 0 F_Form_mul 2 (fun _ _ _ => .bad)) (fBin (dOwnI 0 F_Form_add 2 (fun _ _ _ => .bad)) (fVar 15) (fVar 16)) (fVar 8)) (fBin (dOwnI 0 F_Form_add 2 (fun _ _ _ => .bad)) (fBin dIx (fVar 23) (fC (.int 0))) (fBin dIx (fVar 23) (fC (.int 1))))) aNil))) (sSeq (sDrop (fBM "list" mApp (fVar 21) (aCons (fAnd (fBin (dOwnE 0 F_Form_eq 2 (fun _ _ _ => .bad)) (fBin (dOwnN 0 F_Form_mul 2 (fun _ _ _ => .bad)) (fVar 15) (fC (.int 1))) (fVar 15)) (fBin (dOwnE 0 F_Form_eq 2 (fun _ _ _ => .bad)) (fBin (dOwnN 0 F_Form_mul 2 (fun _ _ _ => .bad)) (fVar 15) (fC (.int 0))) (fCall (mkF 0 F_Form_init 4 [.int (0), .int (1)]) (aCons (fC (.int 0)) aNil)))) aNil))) b_law_right_7))))))) sg st := rfl
noncomputable def b_law_right_9 : SF := (sSeq (sSet 21 (fNew (aCons (fCall (cF F_law_same 4 []) (aCons (fBin (dOwnI 0 F_Form_add 2 (fun _ _ _ => .bad)) (fVar 15) (fVar 16)) (aCons (fBin dIx (fVar 20) (fC (.int 0))) (aCons (fBin dIx (fVar 20) (fC (.int 1))) (aCons (fBin dMul (fVar 11) (fVar 14)) aNil))))) aNil))) (sSeq (sSet 22 (fLst (aCons (fBin dSub (fBin dIx (fVar 18) (fC (.int 0))) (fBin dIx (fVar 18) (fC (.int 1)))) (aCons (fBin dSub (fBin dIx (fVar 19) (fC (.int 0))) (fBin dIx (fVar 19) (fC (.int 1)))) aNil)))) (sSeq (sDrop (fBM "list" mApp (fVar 21) (aCons (fCall (cF F_law_same 4 []) (aCons (fBin (dOwnI 0 F_Form_sub 2 (fun _ _ _ => .bad)) (fVar 15) (fVar 16)) (aCons (fBin dIx (fVar 22) (fC (.int 0))) (aCons (fBin dIx (fVar 22) (fC (.int 1))) (aCons (fBin dMul (fVar 11) (fVar 14)) aNil))))) aNil))) (sSeq (sDrop (fBM "list" mApp (fVar 21) (aCons (fCall (cF F_law_same 4 []) (aCons (fBin (dOwnN 0 F_Form_add 2 (fun _ _ _ => .bad)) (fVar 15) (fVar 7)) (aCons (fBin dAdd (fVar 9) (fBin dMul (fVar 7) (fVar 11))) (aCons (fVar 10) (aCons (fVar 11) aNil))))) aNil))) (sSeq (sDrop (fBM "list" mApp (fVar 21) (aCons (fCall (cF F_law_same 4 []) (aCons (fBin (dOwnN 0 F_Form_sub 2 (fun _ _ _ => .bad)) (fVar 15) (fVar 7)) (aCons (fBin dSub (fVar 9) (fBin dMul (fVar 7) (fVar 11))) (aCons (fVar 10) (aCons (fVar 11) aNil))))) aNil))) (sSeq (sDrop (fBM "list" mApp (fVar 21) (aCons (fCall (cF F_law_same 4 []) (aCons (fUn (uOwn 0 F_Form_neg 1 (fun _ _ => .bad)) (fVar 15)) (aCons (fBin dSub (fC (.int 0)) (fVar 9)) (aCons (fBin dSub (fC (.int 0)) (fVar 10)) (aCons (fVar 11) aNil))))) aNil))) (sSeq (sDrop (fBM "list" mApp (fVar 21) (aCons (fCall (cF F_law_same 4 []) (aCons (fBin (dOwnN 0 F_Form_mul 2 (fun _ _ _ => .bad)) (fVar 15) (fVar 8)) (aCons (fBin dMul (fVar 9) (fVar 8)) (aCons (fBin dMul (fVar 10) (fVar 8)) (aCons (fVar 11) aNil))))) aNil))) b_law_right_8)))))))
theorem at_b_law_right_9 (sg : Sg) (st : Sto) : b_law_right_9 sg st = (sSeq (sSet 21 (fNew (aCons (fCall (cF F_law_same 4 []) (aCons (fBin (dOwnI 0 F_Form_add 2 (fun _ _ _ => .bad)) (fVar 15) (fVar 16)) (aCons (fBin dIx (fVar 20) (fC (.int 0))) (aCons (fBin dIx (fVar 20) (fC (.int 1))) (aCons (fBin dMul (fVar 11) (fVar 14)) aNil))))) aNil))) (sSeq (sSet 22 (fLst (aCons (fBin dSub (fBin dIx (fVar 18) (fC (.int 0))) (fBin dIx (fVar 18) (fC (.int 1)))) (aCons (fBin dSub (fBin dIx (fVar 19) (fC (.int 0))) (fBin dIx (fVar 19) (fC (.int 1)))) aNil)))) (sSeq (sDrop (fBM "list" mApp (fVar 21) (aCons (fCall (cF F_law_same 4 []) (aCons (fBin (dOwnI 0 F_Form_sub 2 (fun _ _ _ => .bad)) (fVar 15) (fVar 16)) (aCons (fBin dIx (fVar 22) (fC (.int 0))) (aCons (fBin dIx (fVar 22) (fC (.int 1))) (aCons (fBin dMul (fVar 11) (fVar 14)) aNil))))) aNil))) (sSeq (sDrop (fBM "list" mApp (fVar 21) (aCons (fCall (cF F_law_same 4 []) (aCons (fBin (dOwnN 0 F_Form_add 2 (fun _ _ _ => .bad)) (fVar 15) (fVar 7)) (aCons (fBin dAdd (fVar 9) (fBin dMul (fVar 7) (fVar 11))) (aCons (fVar 10) (aCons (fVar 11) aNil))))) aNil))) (sSeq (sDrop (fBM "list" mApp (fVar 21) (aCons (fCall (cF F_law_same 4 []) (aCons (fBin (dOwnN 0 F_Form_sub 2 (fun _ _ _ => .bad)) (fVar 15) (fVar 7)) (aCons (fBin dSub (fVar 9) (fBin dMul (fVar 7) (fVar 11))) (aCons (fVar 10) (aCons (fVar 11) aNil))))) aNil))) (sSeq (sDrop (fBM "list" mApp (fVar 21) (aCons (fCall (cF F_law_same 4 []) (aCons (fUn (uOwn 0 F_Form_neg 1 (fun _ _ => .bad)) (fVar 15)) (aCons (fBin dSub (fC (.int 0)) (fVar 9)) (aCons (fBin dSub (fC (.int 0)) (fVar 10)) (aCons (fVar 11) aNil))))) aNil))) (sSeq (sDrop (fBM "list" mApp (fVar 21) (aCons (fCall (cF F_law_same 4 []) (aCons (fBin (dOwnN 0 F_Form_mul 2 (fun _ _ _ => .bad)) (fVar 15) (fVar 8)) (aCons (fBin dMul (fVar 9) (fVar 8)) (aCons (fBin dMul (fVar 10) (fVar 8)) (aCons (fVar 11) aNil))))) aNil))) b_law_right_8))))))) sg st := rfl
noncomputable def b_law_right_10 : SF := (sSeq (sPar 7 8 (aCons (fCall (cF F_law_number 1 []) (aCons (fVar 0) aNil)) (aCons (fBin dIx (fLst (aCons (fCall (cF F_law_dip 2 []) (aCons (fVar 0) (aCons (fC (.int 60)) aNil))) (aCons (fBin dSub (fC (.int 0)) (fCall (cF F_law_dip 2 []) (aCons (fVar 0) (aCons (fBin dPow (fC (.int 10)) (fC (.int 12))) aNil)))) aNil))) (fCall (cF F_law_dip 2 []) (aCons (fVar 0) (aCons (fC (.int 2)) aNil)))) aNil))) (sSeq (sAsg (.nest [.tp [9, 10, 11], .tp [12, 13, 14]]) (fTup (aCons (fBin dIx (fVar 1) (fC (.int 0))) (aCons (fBin dIx (fVar 1) (fC (.int 1))) aNil)))) (sSeq (sPar3 15 16 17 (aCons (fBin dIx (fVar 3) (fC (.int 0))) (aCons (fBin dIx (fVar 3) (fC (.int 1))) (aCons (fBin dIx (fVar 3) (fC (.int 2))) aNil)))) (sSeq (sPar 18 19 (aCons (fLst (aCons (fBin dMul (fVar 9) (fVar 14)) (aCons (fBin dMul (fVar 12) (fVar 11)) aNil))) (aCons (fLst (aCons (fBin dMul (fVar 10) (fVar 14)) (aCons (fBin dMul (fVar 13) (fVar 11)) aNil))) aNil))) (sSeq (sSet 20 (fLst (aCons (fBin dAdd (fBin dIx (fVar 18) (fC (.int 0))) (fBin dIx (fVar 18) (fC (.int 1)))) (aCons (fBin dAdd (fBin dIx (fVar 19) (fC (.int 0))) (fBin dIx (fVar 19) (fC (.int 1)))) aNil)))) b_law_right_9)))))
theorem at_b_law_right_10 (sg : Sg) (st : Sto) : b_law_right_10 sg st = (sSeq (sPar 7 8 (aCons (fCall (cF F_law_number 1 []) (aCons (fVar 0) aNil)) (aCons (fBin dIx (fLst (aCons (fCall (cF F_law_dip 2 []) (aCons (fVar 0) (aCons (fC (.int 60)) aNil))) (aCons (fBin dSub (fC (.int 0)) (fCall (cF F_law_dip 2 []) (aCons (fVar 0) (aCons (fBin dPow (fC (.int 10)) (fC (.int 12))) aNil)))) aNil))) (fCall (cF F_law_dip 2 []) (aCons (fVar 0) (aCons (fC (.int 2)) aNil)))) aNil))) (sSeq (sAsg (.nest [.tp [9, 10, 11], .tp [12, 13, 14]]) (fTup (aCons (fBin dIx (fVar 1) (fC (.int 0))) (aCons (fBin dIx (fVar 1) (fC (.int 1))) aNil)))) (sSeq (sPar3 15 16 17 (aCons (fBin dIx (fVar 3) (fC (.int 0))) (aCons (fBin dIx (fVar 3) (fC (.int 1))) (aCons (fBin dIx (fVar 3) (fC (.int 2))) aNil)))) (sSeq (sPar 18 19 (aCons (fLst (aCons (fBin dMul (fVar 9) (fVar 14)) (aCons (fBin dMul (fVar 12) (fVar 11)) aNil))) (aCons (fLst (aCons (fBin dMul (fVar 10) (fVar 14)) (aCons (fBin dMul (fVar 13) (fVar 11)) aNil))) aNil))) (sSeq (sSet 20 (fLst (aCons (fBin dAdd (fBin dIx (fVar 18) (fC (.int 0))) (fBin dIx (fVar 18) (fC (.int 1)))) (aCons (fBin dAdd (fBin dIx (fVar 19) (fC (.int 0))) (fBin dIx (fVar 19) (fC (.int 1)))) aNil)))) b_law_right_9))))) sg st := rfl
noncomputable def g_law_right : SF := (sSeq (sSet 1 (fLc [2] (iRange1 (aCons (fC (.int 3)) aNil)) (.one 2) tYesD b_law_right_0)) (sSeq (sSet 3 (fLc [4] (iSeq (fVar 1)) (.one 4) tYesD b_law_right_1)) (sSeq (sSet 5 (fLc [6] (iSeq (fVar 3)) (.one 6) tYesD b_law_right_2)) b_law_right_10)))
noncomputable def F_law_right : FF := fnF 27 g_law_right
noncomputable def b_law_0 : SF := (sIf (tNot' (tTru (fCall (cF F_law_right 1 []) (aCons (fVar 2) aNil)))) (sRet (fC (.bl false))) sNil)
theorem at_b_law_0 (sg : Sg) (st : Sto) : b_law_0 sg st = (sIf (tNot' (tTru (fCall (cF F_law_right 1 []) (aCons (fVar 2) aNil)))) (sRet (fC (.bl false))) sNil) sg st := rfl
noncomputable def b_law_1 : SF := (sSeq (sSet 2 (fCall (cF F_law_pot 2 []) (aCons (fVar 0) (aCons (fVar 1) aNil)))) (sFor (iRange1 (aCons (fC (.int 2)) aNil)) (.one 3) b_law_0))
theorem at_b_law_1 (sg : Sg) (st : Sto) : b_law_1 sg st = (sSeq (sSet 2 (fCall (cF F_law_pot 2 []) (aCons (fVar 0) (aCons (fVar 1) aNil)))) (sFor (iRange1 (aCons (fC (.int 2)) aNil)) (.one 3) b_law_0)) sg st := rfl
noncomputable def g_law : SF := (sSeq (sFor (iRange1 (aCons (fCall bMax (aCons (fC (.int 1)) (aCons (fCall bMin (aCons (fC (.int 12)) (aCons (fCall bLen (aCons (fVar 0) aNil)) aNil))) aNil))) aNil)) (.one 1) b_law_1) (sRet (fC (.bl true))))
noncomputable def F_law : FF := fnF 4 g_law
def law_N : List Str := ["_law_script", "_law_k", "_law_pot_here", "_law_lap"]
end Law
/-! the pot from which a law draws -/
namespace Law
open PySem Sh
/-- a pot at n, dipped into at most t times -/
def Pot (st : Sto) (n : Nat) (t : Int) : Prop := ∃ p c u : Int, st[n]? = some (.lst [.int p, .int c, .int u]) ∧ 0 ≤ p ∧ 0 ≤ c ∧ c < 2 ^ 120 ∧ 0 ≤ u ∧ u ≤ t
theorem Pot.le {st : Sto} {n : Nat} {t t' : Int} (h : Pot st n t) (e : t ≤ t') : Pot st n t' :=
  let ⟨p, c, u, h1, h2, h3, h4, h5, h6⟩ := h; ⟨p, c, u, h1, h2, h3, h4, h5, Int.le_trans h6 e⟩
theorem Pot.append {st : Sto} {n : Nat} {t : Int} (h : Pot st n t) (r : Sto) : Pot (st ++ r) n t :=
  let ⟨p, c, u, h1, h2⟩ := h; ⟨p, c, u, by rw [List.getElem?_append_left (List.getElem?_eq_some_iff.mp h1).1]; exact h1, h2⟩
theorem pot_raw (l : List Int) (k : Nat) (st : Sto) (hk : k < 64) : ∃ x : Int, F_law_pot [.scr l, .int k] st = .ok (.loc st.length) (st ++ [.lst [.int (if x - 10 ^ 18 > 0 then x - 10 ^ 18 else 0), .int (x % (10 ^ 33 + 33) + 524309 * k), .int 0]]) := by
  have p18 : powOk 10 18 := by decide
  have p33 : powOk 10 33 := by decide
  have m1 : mulOk 524309 (k : Int) := mulOk_of (a := 20) (b := 10) (by decide) (by
    have : ((k : Int)).natAbs = k := rfl
    rw [this]; omega) (by decide) (by decide) (by decide)
  by_cases h : k < l.length
  · exact ⟨if l[k] < 0 then -l[k] else l[k], by simp -implicitDefEqProofs [F_law_pot, g_law_pot, p18, p33, m1, h]⟩
  · exact ⟨0, by simp -implicitDefEqProofs [F_law_pot, g_law_pot, p18, p33, m1, h]⟩
theorem pot_ok (l : List Int) (k : Nat) (st : Sto) (hk : k < 64) : ∃ o, F_law_pot [.scr l, .int k] st = .ok (.loc st.length) (st ++ [o]) ∧ Pot (st ++ [o]) st.length 0 := by
  obtain ⟨x, hx⟩ := pot_raw l k st hk
  have h1 : 0 ≤ x % (10 ^ 33 + 33) := Int.emod_nonneg _ (by decide)
  have h2 : x % (10 ^ 33 + 33) < 10 ^ 33 + 33 := Int.emod_lt_of_pos _ (by decide)
  refine ⟨_, hx, ⟨_, _, _, by rw [List.getElem?_append_right (Nat.le_refl _), Nat.sub_self]; rfl, ?_, ?_, ?_, Int.le_refl _, Int.le_refl _⟩⟩
  · split <;> omega
  · omega
  · omega
/-- a dip: some number below many -/
theorem dip_ok {st : Sto} {n : Nat} {t m : Int} (h : Pot st n t) (ht : t < 2 ^ 60) (hm : 1 ≤ m) (hm2 : m < 2 ^ 200) :
    ∃ (r : Int) (o : SO), F_law_dip [.loc n, .int m] st = .ok (.int r) (st.set n o) ∧ 0 ≤ r ∧ r < m ∧ Pot (st.set n o) n (t + 1) := by
  obtain ⟨p, c, u, h1, h2, h3, h4, h5, h6⟩ := h
  have hn : n < st.length := (List.getElem?_eq_some_iff.mp h1).1
  have e2 : st[n] = .lst [.int p, .int c, .int u] := (List.getElem?_eq_some_iff.mp h1).2
  have m0 : 0 < m := by omega
  have dm : divOk m := divOk_of (b := 200) (nat_lt_pow (by omega) hm2) (by decide) (by decide)
  have r1 : ∀ x : Int, 0 ≤ x % m ∧ x % m < m := fun x => ⟨Int.emod_nonneg _ (by omega), Int.emod_lt_of_pos _ m0⟩
  by_cases hp : 0 < p
  · refine ⟨p % m, .lst [.int (p / m), .int c, .int u], by simp -implicitDefEqProofs [F_law_dip, g_law_dip, h1, hp, m0, dm], (r1 p).1, (r1 p).2, ⟨p / m, c, u, by simp [hn], Int.ediv_nonneg h2 (by omega), h3, h4, h5, by omega⟩⟩
  · have p1 : powOk 10 41 := by decide
    have p2 : powOk 10 39 := by decide
    have p3 : powOk 10 7 := by decide
    have a0 : 0 ≤ c + 86028121 * (u + 1) ∧ c + 86028121 * (u + 1) < 2 ^ 130 := by omega
    have q1 : powOk (c + 86028121 * (u + 1)) 3 := powOk_of (n := 130) (nat_lt_pow a0.1 a0.2) (by decide) (by decide)
    have mm1 : mulOk 86028121 (u + 1) := mulOk_of (a := 30) (b := 61) (by decide) (nat_lt_pow (by omega) (by omega)) (by decide) (by decide) (by decide)
    have mm2 : mulOk 179424673 (u + 1) := mulOk_of (a := 30) (b := 61) (by decide) (nat_lt_pow (by omega) (by omega)) (by decide) (by decide) (by decide)
    have hx : ∀ x : Int, 0 ≤ x % (10 ^ 41 + 9) ∧ x % (10 ^ 41 + 9) < 10 ^ 41 + 9 := fun x => ⟨Int.emod_nonneg _ (by decide), Int.emod_lt_of_pos _ (by decide)⟩
    have q2 : ∀ x : Int, powOk (x % (10 ^ 41 + 9) + 179424673 * (u + 1)) 3 := fun x => powOk_of (n := 150) (nat_lt_pow (by have := hx x; omega) (by have := hx x; omega)) (by decide) (by decide)
    have d7 : divOk (10 ^ 7) := by decide
    have q2' : ∀ x : Int, powOk (x % 100000000000000000000000000000000000000009 + 179424673 * (u + 1)) 3 := q2
    have d7' : divOk 10000000 := d7
    refine ⟨((((c + 86028121 * (u + 1)) ^ 3 % (10 ^ 41 + 9) + 179424673 * (u + 1)) ^ 3 % (10 ^ 39 + 57)) / 10 ^ 7) % m, .lst [.int p, .int c, .int (u + 1)], ?_, (r1 _).1, (r1 _).2, ⟨p, c, u + 1, by simp [hn], h2, h3, h4, by omega, by omega⟩⟩
    simp -implicitDefEqProofs [F_law_dip, g_law_dip, h1, e2, hp, m0, hn, p1, p2, p3, q1, mm1, mm2, q2', d7']
end Law
/-! forms: is_whole, common_divisor, Form(a, b, q) -/
namespace Law
open PySem Sh
def isWh : D → Bool
  | .int _ => true
  | _ => false
def plainD : D → Bool
  | .non => true
  | .bl _ => true
  | .int _ => true
  | .str _ => true
  | .tup _ => true
  | .lst _ => true
  | .edict => true
  | _ => false
theorem whole_ok {d : D} {st : Sto} (h : plainD d = true) : F_is_whole [d] st = .ok (.bl (isWh d)) st := by
  cases d <;> first | rfl | (simp [plainD] at h; done)
abbrev cdT : TF := tOfE (fBin dNe (fVar 1) (fC (.int 0)))
noncomputable abbrev cdB : SF := b_common_divisor_0
theorem cd_loop (st : Sto) : ∀ (n a b m : Nat), b ≤ n → n + 1 ≤ m → whF cdT cdB m [some (.int a), some (.int b)] st = .nx [some (.int (Nat.gcd a b)), some (.int 0)] st
  | n, a, 0, m + 1, _, _ => by
    rw [wh_step]
    simp -implicitDefEqProofs []
  | 0, a, b + 1, m, h, _ => absurd h (by omega)
  | n + 1, a, b + 1, m + 1, h, h2 => by
    rw [wh_step]
    have e : Nat.gcd a (b + 1) = Nat.gcd (b + 1) (a % (b + 1)) := by rw [Nat.gcd_comm, Nat.gcd_rec, Nat.gcd_comm]
    have ih := cd_loop st n (b + 1) (a % (b + 1)) m (by have : a % (b + 1) < b + 1 := Nat.mod_lt a (Nat.succ_pos b); omega) (by omega)
    have h0 : (0 : Int) < (b : Int) + 1 := by omega
    have hne : ¬ ((b : Int) + 1 = 0) := by omega
    rw [e]
    have ih' : whF cdT cdB m [some (.int ((b : Int) + 1)), some (.int ((a : Int) % ((b : Int) + 1)))] st = .nx [some (.int (Nat.gcd (b + 1) (a % (b + 1)))), some (.int 0)] st := by simpa using ih
    simp -implicitDefEqProofs [at_b_common_divisor_0, h0, hne, ih']
theorem abs_if (a : Int) : (if a < 0 then -a else a) = ((a.natAbs : Nat) : Int) := by split <;> omega
theorem divisor_ok {a b : Int} {st : Sto} (hb : b.natAbs < 2 ^ 3000) : F_common_divisor [.int a, .int b] st = .ok (.int (Int.gcd a b)) st := by
  obtain ⟨n, hn⟩ := fuel_eq (m := 2 ^ 3000) (by exact Nat.pow_le_pow_right (by decide) (by decide))
  have h := cd_loop st b.natAbs a.natAbs b.natAbs fuel (Nat.le_refl _) (by rw [hn]; omega)
  simp -implicitDefEqProofs [F_common_divisor, g_common_divisor, sWhile, abs_if]
  simp only [cdT, cdB] at h
  rw [h]
  simp -implicitDefEqProofs [Int.gcd]
theorem init_bad {a b q : D} {n : Nat} {st : Sto} (ha : plainD a = true) (hb : plainD b = true) (hq : plainD q = true) (h : isWh a = false ∨ isWh b = false ∨ isWh q = false ∨ ∃ i, q = .int i ∧ i < 1) : F_Form_init [.loc n, a, b, q] st = .exc 1 none st := by
  have vn : ∀ {d : D}, plainD d = true → d ≠ .exn := fun {d} h e => by subst e; cases h
  have hv : ∀ (d : D) (sg : Sg) (i : Nat) (st : Sto), plainD d = true → sg[i]? = some (some d) → fVar i sg st = .ok d st := fun d sg i st h e => by
    simp only [fVar, e]
    cases d <;> first | rfl | (exact absurd rfl (vn h))
  have v1 : ∀ st, fVar 1 [some (.loc n), some a, some b, some q, none] st = .ok a st := fun st => hv _ _ _ _ ha rfl
  have v2 : ∀ st, fVar 2 [some (.loc n), some a, some b, some q, none] st = .ok b st := fun st => hv _ _ _ _ hb rfl
  have v3 : ∀ st, fVar 3 [some (.loc n), some a, some b, some q, none] st = .ok q st := fun st => hv _ _ _ _ hq rfl
  cases xa : isWh a with
  | false => simp -implicitDefEqProofs [F_Form_init, g_Form_init, -fVar, v1, v2, v3, whole_ok ha, xa]
  | true =>
    cases xb : isWh b with
    | false => simp -implicitDefEqProofs [F_Form_init, g_Form_init, -fVar, v1, v2, v3, whole_ok ha, xa, whole_ok hb, xb]
    | true =>
      cases xq : isWh q with
      | false => simp -implicitDefEqProofs [F_Form_init, g_Form_init, -fVar, v1, v2, v3, whole_ok ha, xa, whole_ok hb, xb, whole_ok hq, xq]
      | true =>
        rcases h with h | h | h | ⟨i, rfl, h⟩
        · rw [h] at xa; cases xa
        · rw [h] at xb; cases xb
        · rw [h] at xq; cases xq
        · simp -implicitDefEqProofs [F_Form_init, g_Form_init, -fVar, v1, v2, v3, whole_ok ha, xa, whole_ok hb, xb, whole_ok hq, xq, h]
theorem form_bad {a b q : D} {st : Sto} (ha : plainD a = true) (hb : plainD b = true) (hq : plainD q = true) (h : isWh a = false ∨ isWh b = false ∨ isWh q = false ∨ ∃ i, q = .int i ∧ i < 1) : mkF 0 F_Form_init 4 [] [a, b, q] st = .exc 1 none st := by
  simp -implicitDefEqProofs [mkF, mkG, init_bad ha hb hq h]
def gcd3 (a b q : Int) : Nat := Int.gcd (Int.gcd a b) q
def rowD (a b q : Int) : D := .tup [.int (a / gcd3 a b q), .int (b / gcd3 a b q), .int (q / gcd3 a b q)]
theorem gcd3_pos {a b q : Int} (hq : 1 ≤ q) : 0 < gcd3 a b q := Int.gcd_pos_of_ne_zero_right _ (by omega)
theorem gcd3_le {a b q : Int} (hq : 1 ≤ q) : ((gcd3 a b q : Nat) : Int) ≤ q := Int.le_of_dvd (by omega) (Int.gcd_dvd_right ..)
theorem form_new {a b q : Int} {st : Sto} (hb : b.natAbs < 2 ^ 3000) (hq : 1 ≤ q) (hq2 : q.natAbs < 2 ^ 3000) : mkF 0 F_Form_init 4 [] [.int a, .int b, .int q] st = .ok (.ins 0 [rowD a b q]) st := by
  have w : ∀ i : Int, F_is_whole [.int i] = fun st => .ok (.bl true) st := fun i => by funext st; exact whole_ok rfl
  have gp := gcd3_pos (a := a) (b := b) hq
  have gl := gcd3_le (a := a) (b := b) hq
  have h1 : (0 : Int) < gcd3 a b q := by omega
  have h2 : divOk (gcd3 a b q) := divOk_of (b := 3000) (by
    have : ((gcd3 a b q : Nat) : Int).natAbs = gcd3 a b q := rfl
    rw [this]; omega) (by decide) (by decide)
  have h3 : ¬ q < 1 := by omega
  have d1 : ∀ st, F_common_divisor [.int a, .int b] st = .ok (.int (Int.gcd a b)) st := fun st => divisor_ok hb
  have d2 : ∀ st, F_common_divisor [.int (Int.gcd a b), .int q] st = .ok (.int (gcd3 a b q)) st := fun st => divisor_ok hq2
  simp -implicitDefEqProofs [mkF, mkG, F_Form_init, g_Form_init, w, h3, d1, d2, h1, gp, h2, rowD]
end Law
/-! forms drawn, forms as they are made, - and + of forms -/
namespace Law
open PySem Sh
theorem dip_to {st : Sto} {n : Nat} {t m : Int} (h : Pot st n t) (ht : t < 2 ^ 59) (hm : 1 ≤ m) (hm2 : m < 2 ^ 200) :
    ∃ (r : Int) (st' : Sto), F_law_dip [.loc n, .int m] st = .ok (.int r) st' ∧ 0 ≤ r ∧ r < m ∧ Pot st' n (t + 1) := by
  obtain ⟨r, o, h1, h2, h3, h4⟩ := dip_ok h (by omega) hm hm2
  exact ⟨r, _, h1, h2, h3, h4⟩
theorem number_ok {st : Sto} {n : Nat} {t : Int} (h : Pot st n t) (ht : t < 2 ^ 58) : ∃ (x : Int) (st' : Sto), F_law_number [.loc n] st = .ok (.int x) st' ∧ -(10 ^ 40) < x ∧ x < 10 ^ 40 ∧ Pot st' n (t + 5) := by
  obtain ⟨a, s1, e1, l1, u1, p1⟩ := dip_to h (m := 8) (by omega) (by decide) (by decide)
  obtain ⟨b, s2, e2, l2, u2, p2⟩ := dip_to p1 (m := 60) (by omega) (by decide) (by decide)
  obtain ⟨c, s3, e3, l3, u3, p3⟩ := dip_to p2 (m := 10 ^ 40) (by omega) (by decide) (by decide)
  obtain ⟨i, s4, e4, l4, u4, p4⟩ := dip_to p3 (m := 3) (by omega) (by decide) (by decide)
  obtain ⟨j, s5, e5, l5, u5, p5⟩ := dip_to p4 (m := 2) (by omega) (by decide) (by decide)
  have p40 : powOk 10 40 := by decide
  have e3' : F_law_dip [.loc n, .int 10000000000000000000000000000000000000000] s2 = .ok (.int c) s3 := e3
  have h5 : t + 1 + 1 + 1 + 1 + 1 = t + 5 := by omega
  rw [h5] at p5
  have hi : i = 0 ∨ i = 1 ∨ i = 2 := by omega
  have hj : j = 0 ∨ j = 1 := by omega
  rcases hi with rfl | rfl | rfl <;> rcases hj with rfl | rfl
  all_goals
    refine ⟨_, s5, by simp -implicitDefEqProofs [F_law_number, g_law_number, e1, e2, e3', e4, e5, p40]; rfl, ?_, ?_, p5⟩ <;> omega
theorem draw_ok {st : Sto} {n : Nat} {t : Int} (h : Pot st n t) (ht : t < 2 ^ 57) : ∃ (a b q : Int) (st' : Sto), F_law_form [.loc n] st = .ok (.tup [.int a, .int b, .int q]) st' ∧ (-(10 ^ 40) < a ∧ a < 10 ^ 40) ∧ (-(10 ^ 40) < b ∧ b < 10 ^ 40) ∧ 1 ≤ q ∧ q ≤ 60 ∧ Pot st' n (t + 13) := by
  obtain ⟨a, s1, e1, l1, u1, p1⟩ := number_ok h (by omega)
  obtain ⟨b, s2, e2, l2, u2, p2⟩ := number_ok p1 (by omega)
  obtain ⟨i, s3, e3, l3, u3, p3⟩ := dip_to p2 (m := 5) (by omega) (by decide) (by decide)
  obtain ⟨j, s4, e4, l4, u4, p4⟩ := dip_to p3 (m := 3) (by omega) (by decide) (by decide)
  have hj : j = 0 ∨ j = 1 ∨ j = 2 := by omega
  have hw : ∃ w : Int, 1 ≤ w ∧ w ≤ 60 ∧ [D.int 1, D.int 6, D.int 60][j.toNat]? = some (.int w) := by
    rcases hj with rfl | rfl | rfl
    · exact ⟨1, by decide, by decide, rfl⟩
    · exact ⟨6, by decide, by decide, rfl⟩
    · exact ⟨60, by decide, by decide, rfl⟩
  obtain ⟨w, w1, w2, w3⟩ := hw
  obtain ⟨k, s5, e5, l5, u5, p5⟩ := dip_to p4 (m := w) (by omega) (by omega) (by omega)
  have h13 : t + 5 + 5 + 1 + 1 + 1 = t + 13 := by omega
  rw [h13] at p5
  have bb : Bd 140 b := .of (by omega) (by omega)
  have hk : ∀ x : Int, 0 ≤ x → x ≤ 1 → mulOk b x := fun x h1 h2 => bb.mulOk (m := 2) (.of (by omega) (by omega))
  have m0 := hk 0 (by decide) (by decide)
  have m1 := hk 1 (by decide) (by decide)
  by_cases hp : 0 < i
  · exact ⟨a, b, 1 + k, s5, by simp -implicitDefEqProofs [F_law_form, g_law_form, e1, e2, e3, e4, e5, w3, l4, hp, m1], ⟨l1, u1⟩, ⟨l2, u2⟩, by omega, by omega, p5⟩
  · exact ⟨a, 0, 1 + k, s5, by simp -implicitDefEqProofs [F_law_form, g_law_form, e1, e2, e3, e4, e5, w3, l4, hp, m0], ⟨l1, u1⟩, ⟨by decide, by decide⟩, by omega, by omega, p5⟩
abbrev formD (a b q : Int) : D := .ins 0 [.tup [.int a, .int b, .int q]]
theorem form_mk {a b q : Int} {n : Nat} (hn : n ≤ 3000) (hb : Bd n b) (hq : 1 ≤ q) (hq2 : Bd n q) : ∃ g A B Q : Int, 0 < g ∧ a = g * A ∧ b = g * B ∧ q = g * Q ∧ 1 ≤ Q ∧ ∀ st, mkF 0 F_Form_init 4 [] [.int a, .int b, .int q] st = .ok (formD A B Q) st := by
  have gp := gcd3_pos (a := a) (b := b) hq
  have d1 : ((gcd3 a b q : Nat) : Int) ∣ ((Int.gcd a b : Nat) : Int) := Int.gcd_dvd_left ..
  have da : ((gcd3 a b q : Nat) : Int) ∣ a := Int.dvd_trans d1 (Int.gcd_dvd_left ..)
  have db : ((gcd3 a b q : Nat) : Int) ∣ b := Int.dvd_trans d1 (Int.gcd_dvd_right ..)
  have dq : ((gcd3 a b q : Nat) : Int) ∣ q := Int.gcd_dvd_right ..
  have hg : (0 : Int) < gcd3 a b q := by omega
  refine ⟨gcd3 a b q, a / gcd3 a b q, b / gcd3 a b q, q / gcd3 a b q, hg, (Int.mul_ediv_cancel' da).symm, (Int.mul_ediv_cancel' db).symm, (Int.mul_ediv_cancel' dq).symm, ?_, fun st => form_new (hb.mono hn) hq (hq2.mono hn)⟩
  have : q = gcd3 a b q * (q / gcd3 a b q) := (Int.mul_ediv_cancel' dq).symm
  rcases Int.lt_or_le (q / gcd3 a b q) 1 with z | z
  · have z2 : q / gcd3 a b q ≤ 0 := by omega
    have := Int.mul_le_mul_of_nonneg_left z2 (Int.le_of_lt hg)
    omega
  · exact z
theorem parts_ok {r : D} {st : Sto} (h : r ≠ .exn) : F_Form_parts [.ins 0 [r]] st = .ok r st := by
  simp -implicitDefEqProofs [F_Form_parts, g_Form_parts]
theorem form_of_ok {a b q : Int} {st : Sto} : F_form_of [formD a b q] st = .ok (formD a b q) st := by
  simp -implicitDefEqProofs [F_form_of, g_form_of]
theorem parts_of_ok {a b q : Int} {st : Sto} : F_parts_of [formD a b q] st = .ok (.tup [.int a, .int b, .int q]) st := by
  have h := fun st => form_of_ok (a := a) (b := b) (q := q) (st := st)
  simp -implicitDefEqProofs [F_parts_of, g_parts_of, h, parts_ok]
theorem neg_ok {a b q : Int} {n : Nat} (hn : n ≤ 3000) (hb : Bd n b) (hq : 1 ≤ q) (hq2 : Bd n q) : ∃ g A B Q : Int, 0 < g ∧ -a = g * A ∧ -b = g * B ∧ q = g * Q ∧ 1 ≤ Q ∧ ∀ st, F_Form_neg [formD a b q] st = .ok (formD A B Q) st := by
  obtain ⟨g, A, B, Q, h1, h2, h3, h4, h5, h6⟩ := form_mk (a := -a) hn hb.neg hq hq2
  exact ⟨g, A, B, Q, h1, h2, h3, h4, h5, fun st => by simp -implicitDefEqProofs [F_Form_neg, g_Form_neg, h6]⟩
theorem add_ok {a b q c e r : Int} {n : Nat} (hn : n ≤ 1000) (ha : Bd n a) (hb : Bd n b) (hq : 1 ≤ q) (hq2 : Bd n q) (hc : Bd n c) (he : Bd n e) (hr : 1 ≤ r) (hr2 : Bd n r) :
    ∃ g A B Q : Int, 0 < g ∧ a * r + c * q = g * A ∧ b * r + e * q = g * B ∧ q * r = g * Q ∧ 1 ≤ Q ∧ ∀ st, F_Form_add [formD a b q, formD c e r] st = .ok (formD A B Q) st := by
  have hqr : 1 ≤ q * r := by
    have := Int.mul_le_mul hq hr (by decide) (by omega)
    omega
  have b1 : Bd 3000 (b * r + e * q) := (n + n + (n + n)).recOn (motive := fun _ => Bd 3000 (b * r + e * q)) (by
    have := (hb.mono hn).mul (hr2.mono hn)
    have k := (he.mono hn).mul (hq2.mono hn)
    unfold Bd at *
    have h3 : (b * r + e * q).natAbs ≤ (b * r).natAbs + (e * q).natAbs := Int.natAbs_add_le _ _
    have h4 : (2 : Nat) ^ (1000 + 1000) + 2 ^ (1000 + 1000) ≤ 2 ^ 3000 := by decide
    omega) fun _ z => z
  have b2 : Bd 3000 (q * r) := ((hq2.mono hn).mul (hr2.mono hn)).mono (by decide)
  obtain ⟨g, A, B, Q, h1, h2, h3, h4, h5, h6⟩ := form_mk (a := a * r + c * q) (Nat.le_refl _) b1 hqr b2
  have m1 : mulOk a r := ha.mulOk hr2 (by omega)
  have m2 : mulOk c q := hc.mulOk hq2 (by omega)
  have m3 : mulOk b r := hb.mulOk hr2 (by omega)
  have m4 : mulOk e q := he.mulOk hq2 (by omega)
  have m5 : mulOk q r := hq2.mulOk hr2 (by omega)
  have hp := fun st => parts_of_ok (a := c) (b := e) (q := r) (st := st)
  exact ⟨g, A, B, Q, h1, h2, h3, h4, h5, fun st => by simp -implicitDefEqProofs [F_Form_add, g_Form_add, hp, m1, m2, m3, m4, m5, h6]⟩
/-- self - other, both forms: a positive multiple of the difference -/
theorem sub_ok {a b q c e r : Int} {n : Nat} (hn : n ≤ 1000) (ha : Bd n a) (hb : Bd n b) (hq : 1 ≤ q) (hq2 : Bd n q) (hc : Bd n c) (he : Bd n e) (hr : 1 ≤ r) (hr2 : Bd n r) :
    ∃ g A B Q : Int, 0 < g ∧ a * r - c * q = g * A ∧ b * r - e * q = g * B ∧ q * r = g * Q ∧ 1 ≤ Q ∧ ∀ st, F_Form_sub [formD a b q, formD c e r] st = .ok (formD A B Q) st := by
  obtain ⟨g1, C, E, R, h1, h2, h3, h4, h5, h6⟩ := neg_ok (a := c) (b := e) (q := r) (n := n) (by omega) he hr hr2
  have hC : Bd n C := hc.neg.fac h1 h2
  have hE : Bd n E := he.neg.fac h1 h3
  have hR : Bd n R := hr2.fac h1 h4
  obtain ⟨g2, A, B, Q, k1, k2, k3, k4, k5, k6⟩ := add_ok hn ha hb hq hq2 hC hE h5 hR
  have hf := fun st => form_of_ok (a := c) (b := e) (q := r) (st := st)
  refine ⟨g1 * g2, A, B, Q, Int.mul_pos h1 k1, ?_, ?_, ?_, k5, fun st => by simp -implicitDefEqProofs [F_Form_sub, g_Form_sub, hf, uOwn, dOwnI, h6, k6]⟩
  · rw [Int.mul_assoc, ← k2, h4, Int.mul_add]
    have : g1 * (C * q) = -c * q := by rw [h2, Int.mul_assoc]
    rw [this, Int.neg_mul, ← Int.sub_eq_add_neg, Int.mul_left_comm]
  · rw [Int.mul_assoc, ← k3, h4, Int.mul_add]
    have : g1 * (E * q) = -e * q := by rw [h3, Int.mul_assoc]
    rw [this, Int.neg_mul, ← Int.sub_eq_add_neg, Int.mul_left_comm]
  · rw [Int.mul_assoc, ← k4, h4, Int.mul_left_comm]
end Law
/-! forms as fractions: fr a b q stands for (a + b x) / q in lowest terms, whatever its terms -/
namespace Law
open PySem Sh
abbrev row (a b q : Int) : D := .tup [.int a, .int b, .int q]
abbrev fr (a b q : Int) : D := .ins 0 [rowD a b q]
theorem gcd3_scale {k : Nat} {a b q : Int} : gcd3 (k * a) (k * b) (k * q) = k * gcd3 a b q := by
  unfold gcd3
  rw [Int.gcd_mul_left]
  have : (((k : Int).natAbs * Int.gcd a b : Nat) : Int) = (k : Int) * (Int.gcd a b : Int) := by simp
  rw [this, Int.gcd_mul_left]
  rfl
theorem rowD_scale {k a b q : Int} (hk : 0 < k) : rowD (k * a) (k * b) (k * q) = rowD a b q := by
  obtain ⟨n, rfl⟩ := Int.eq_ofNat_of_zero_le (Int.le_of_lt hk)
  unfold rowD
  rw [gcd3_scale]
  have : ((n * gcd3 a b q : Nat) : Int) = (n : Int) * (gcd3 a b q : Int) := by simp
  rw [this, Int.mul_ediv_mul_of_pos _ _ hk, Int.mul_ediv_mul_of_pos _ _ hk, Int.mul_ediv_mul_of_pos _ _ hk]
theorem rowD_eq {a b q c e r : Int} (hq : 0 < q) (hr : 0 < r) (h1 : a * r = c * q) (h2 : b * r = e * q) : rowD a b q = rowD c e r := by
  rw [← rowD_scale (k := r) hr, ← rowD_scale (k := q) (a := c) hq, Int.mul_comm r a, h1, Int.mul_comm r b, h2, Int.mul_comm r q, Int.mul_comm c q, Int.mul_comm e q]
theorem row_ex {a b q : Int} (hq : 1 ≤ q) : ∃ g A B Q : Int, 0 < g ∧ a = g * A ∧ b = g * B ∧ q = g * Q ∧ 1 ≤ Q ∧ rowD a b q = row A B Q := by
  have gp := gcd3_pos (a := a) (b := b) hq
  have d1 : ((gcd3 a b q : Nat) : Int) ∣ ((Int.gcd a b : Nat) : Int) := Int.gcd_dvd_left ..
  have da : ((gcd3 a b q : Nat) : Int) ∣ a := Int.dvd_trans d1 (Int.gcd_dvd_left ..)
  have db : ((gcd3 a b q : Nat) : Int) ∣ b := Int.dvd_trans d1 (Int.gcd_dvd_right ..)
  have dq : ((gcd3 a b q : Nat) : Int) ∣ q := Int.gcd_dvd_right ..
  have hg : (0 : Int) < gcd3 a b q := by omega
  refine ⟨gcd3 a b q, a / gcd3 a b q, b / gcd3 a b q, q / gcd3 a b q, hg, (Int.mul_ediv_cancel' da).symm, (Int.mul_ediv_cancel' db).symm, (Int.mul_ediv_cancel' dq).symm, ?_, rfl⟩
  have : q = gcd3 a b q * (q / gcd3 a b q) := (Int.mul_ediv_cancel' dq).symm
  rcases Int.lt_or_le (q / gcd3 a b q) 1 with z | z
  · have z2 : q / gcd3 a b q ≤ 0 := by omega
    have := Int.mul_le_mul_of_nonneg_left z2 (Int.le_of_lt hg)
    omega
  · exact z
/-- a form whose terms have at most n figures -/
structure Frm (n : Nat) (a b q : Int) : Prop where
  ba : Bd n a
  bb : Bd n b
  bq : Bd n q
  pq : 1 ≤ q
theorem Frm.mono {n m : Nat} {a b q : Int} (h : Frm n a b q) (e : n ≤ m) : Frm m a b q := ⟨h.ba.mono e, h.bb.mono e, h.bq.mono e, h.pq⟩
theorem fr_new {n : Nat} {a b q : Int} (h : Frm n a b q) (hn : n ≤ 3000 := by decide) (st : Sto) : mkF 0 F_Form_init 4 [] [.int a, .int b, .int q] st = .ok (fr a b q) st := form_new (h.bb.mono hn) h.pq (h.bq.mono hn)
theorem fr_parts {a b q : Int} (st : Sto) : F_Form_parts [fr a b q] st = .ok (rowD a b q) st := parts_ok (by unfold rowD; simp)
theorem fr_of {a b q : Int} (st : Sto) : F_form_of [fr a b q] st = .ok (fr a b q) st := form_of_ok
theorem mkF_dds {c n : Nat} {F : FF} {dds l : List D} {st : Sto} : mkF c F n dds l st = mkF c F n [] (l ++ dds) st := by
  unfold mkF
  have e : (fun x => cF F n dds (x :: l)) = fun x => cF F n [] (x :: (l ++ dds)) := by
    funext x st
    unfold cF
    simp
  rw [e]
theorem fr_of_int {i : Int} (st : Sto) : F_form_of [.int i] st = .ok (fr i 0 1) st := by
  have h := fun st => form_new (a := i) (b := 0) (q := 1) (st := st) (by decide) (by decide) (by decide)
  have h' : ∀ st, mkF 0 F_Form_init 4 [.int 0, .int 1] [.int i] st = .ok (fr i 0 1) st := fun st => by rw [mkF_dds]; exact h st
  simp -implicitDefEqProofs [F_form_of, g_form_of, h']
theorem fr_neg {n : Nat} {a b q : Int} (h : Frm n a b q) (hn : n ≤ 1000) (st : Sto) : F_Form_neg [fr a b q] st = .ok (fr (-a) (-b) q) st := by
  obtain ⟨g, A, B, Q, i1, i2, i3, i4, i5, i6⟩ := row_ex (a := a) (b := b) h.pq
  have e : rowD (-a) (-b) q = rowD (-A) (-B) Q := by rw [i2, i3, i4, ← Int.mul_neg, ← Int.mul_neg, rowD_scale i1]
  have f := fun st => form_new (a := -A) (b := -B) (q := Q) (st := st) ((h.bb.fac i1 i3).neg.mono (by omega)) i5 ((h.bq.fac i1 i4).mono (by omega))
  show F_Form_neg [.ins 0 [rowD a b q]] st = .ok (.ins 0 [rowD (-a) (-b) q]) st
  rw [e, i6]
  simp -implicitDefEqProofs [F_Form_neg, g_Form_neg, f]
theorem bd_sum {n : Nat} {x y z w : Int} (hx : Bd n x) (hy : Bd n y) (hz : Bd n z) (hw : Bd n w) : Bd (2 * n + 1) (x * y + z * w) := by
  have k1 := hx.mul hy
  have k2 := hz.mul hw
  unfold Bd at *
  have h3 : (x * y + z * w).natAbs ≤ (x * y).natAbs + (z * w).natAbs := Int.natAbs_add_le _ _
  have e : n + n = 2 * n := by omega
  rw [e] at k1 k2
  rw [Nat.pow_succ]; omega
theorem Frm.add {n : Nat} {a b q c e r : Int} (h : Frm n a b q) (k : Frm n c e r) : Frm (2 * n + 1) (a * r + c * q) (b * r + e * q) (q * r) :=
  ⟨bd_sum h.ba k.bq k.ba h.bq, bd_sum h.bb k.bq k.bb h.bq, (h.bq.mul k.bq).mono (by omega), by
    have := Int.mul_le_mul h.pq k.pq (by decide) (by have := h.pq; omega)
    omega⟩
theorem Frm.neg {n : Nat} {a b q : Int} (h : Frm n a b q) : Frm n (-a) (-b) q := ⟨h.ba.neg, h.bb.neg, h.bq, h.pq⟩
theorem Frm.mul {n : Nat} {a b q i : Int} (h : Frm n a b q) (k : Bd n i) : Frm (2 * n) (a * i) (b * i) q := ⟨(h.ba.mul k).mono (by omega), (h.bb.mul k).mono (by omega), h.bq.mono (by omega), h.pq⟩
theorem fr_sum {n : Nat} {a b q c e r : Int} {y : D} (h : Frm n a b q) (k : Frm n c e r) (hn : n ≤ 1000) (hy : ∀ st, F_parts_of [y] st = .ok (rowD c e r) st) (hv : ∀ (sg : Sg) st, sg[1]? = some (some y) → fVar 1 sg st = .ok y st) (st : Sto) :
    F_Form_add [fr a b q, y] st = .ok (fr (a * r + c * q) (b * r + e * q) (q * r)) st := by
  obtain ⟨g, A, B, Q, i1, i2, i3, i4, i5, i6⟩ := row_ex (a := a) (b := b) h.pq
  obtain ⟨g', C, E, R, j1, j2, j3, j4, j5, j6⟩ := row_ex (a := c) (b := e) k.pq
  have gg : 0 < g * g' := Int.mul_pos i1 j1
  have mc : ∀ x y z w : Int, x * y * (z * w) = x * z * (y * w) := fun x y z w => by rw [Int.mul_assoc, Int.mul_assoc, Int.mul_left_comm y]
  have e0 : rowD (a * r + c * q) (b * r + e * q) (q * r) = rowD (A * R + C * Q) (B * R + E * Q) (Q * R) := by
    rw [i2, i3, i4, j2, j3, j4, mc g A g' R, mc g' C g Q, mc g B g' R, mc g' E g Q, mc g Q g' R, Int.mul_comm g' g, ← Int.mul_add, ← Int.mul_add, rowD_scale gg]
  have hA : Frm n A B Q := ⟨h.ba.fac i1 i2, h.bb.fac i1 i3, h.bq.fac i1 i4, i5⟩
  have hC : Frm n C E R := ⟨k.ba.fac j1 j2, k.bb.fac j1 j3, k.bq.fac j1 j4, j5⟩
  have hs := hA.add hC
  have f := fun st => form_new (a := A * R + C * Q) (b := B * R + E * Q) (q := Q * R) (st := st) (hs.bb.mono (by omega)) hs.pq (hs.bq.mono (by omega))
  have m1 : mulOk A R := hA.ba.mulOk hC.bq (by omega)
  have m2 : mulOk C Q := hC.ba.mulOk hA.bq (by omega)
  have m3 : mulOk B R := hA.bb.mulOk hC.bq (by omega)
  have m4 : mulOk E Q := hC.bb.mulOk hA.bq (by omega)
  have m5 : mulOk Q R := hA.bq.mulOk hC.bq (by omega)
  have v1 : ∀ (x2 x3 x4 x5 x6 x7 : Option D) st, fVar 1 [some (.ins 0 [row A B Q]), some y, x2, x3, x4, x5, x6, x7] st = .ok y st := fun _ _ _ _ _ _ st => hv _ st rfl
  have vv : ∀ i (x1 x2 x3 x4 x5 x6 x7 : Option D) d st, [x1, x2, x3, x4, x5, x6, x7][i]? = some (some (.int d)) → fVar (i + 1) (some (.ins 0 [row A B Q]) :: [x1, x2, x3, x4, x5, x6, x7]) st = .ok (.int d) st := fun i x1 x2 x3 x4 x5 x6 x7 d st hh => by
    simp only [fVar, List.getElem?_cons_succ, hh]
  show F_Form_add [.ins 0 [rowD a b q], y] st = .ok (.ins 0 [rowD (a * r + c * q) (b * r + e * q) (q * r)]) st
  rw [e0, i6]
  rw [j6] at hy
  have v0 : ∀ (x1 x2 x3 x4 x5 x6 x7 : Option D) st, fVar 0 [some (.ins 0 [row A B Q]), x1, x2, x3, x4, x5, x6, x7] st = .ok (.ins 0 [row A B Q]) st := fun _ _ _ _ _ _ _ _ => rfl
  have v2 : ∀ (x1 x3 x4 x5 x6 x7 : Option D) d st, fVar 2 [some (.ins 0 [row A B Q]), x1, some (.int d), x3, x4, x5, x6, x7] st = .ok (.int d) st := fun _ _ _ _ _ _ _ _ => rfl
  have v3 : ∀ (x1 x2 x4 x5 x6 x7 : Option D) d st, fVar 3 [some (.ins 0 [row A B Q]), x1, x2, some (.int d), x4, x5, x6, x7] st = .ok (.int d) st := fun _ _ _ _ _ _ _ _ => rfl
  have v4 : ∀ (x1 x2 x3 x5 x6 x7 : Option D) d st, fVar 4 [some (.ins 0 [row A B Q]), x1, x2, x3, some (.int d), x5, x6, x7] st = .ok (.int d) st := fun _ _ _ _ _ _ _ _ => rfl
  have v5 : ∀ (x1 x2 x3 x4 x6 x7 : Option D) d st, fVar 5 [some (.ins 0 [row A B Q]), x1, x2, x3, x4, some (.int d), x6, x7] st = .ok (.int d) st := fun _ _ _ _ _ _ _ _ => rfl
  have v6 : ∀ (x1 x2 x3 x4 x5 x7 : Option D) d st, fVar 6 [some (.ins 0 [row A B Q]), x1, x2, x3, x4, x5, some (.int d), x7] st = .ok (.int d) st := fun _ _ _ _ _ _ _ _ => rfl
  have v7 : ∀ (x1 x2 x3 x4 x5 x6 : Option D) d st, fVar 7 [some (.ins 0 [row A B Q]), x1, x2, x3, x4, x5, x6, some (.int d)] st = .ok (.int d) st := fun _ _ _ _ _ _ _ _ => rfl
  simp -implicitDefEqProofs [F_Form_add, g_Form_add, -fVar, v0, v1, v2, v3, v4, v5, v6, v7, hy, m1, m2, m3, m4, m5, f]
theorem fr_add {n : Nat} {a b q c e r : Int} (h : Frm n a b q) (k : Frm n c e r) (hn : n ≤ 1000) (st : Sto) : F_Form_add [fr a b q, fr c e r] st = .ok (fr (a * r + c * q) (b * r + e * q) (q * r)) st :=
  fr_sum h k hn (fun st => by
    have h1 := fun st => fr_of (a := c) (b := e) (q := r) st
    have h2 := fun st => fr_parts (a := c) (b := e) (q := r) st
    simp -implicitDefEqProofs [F_parts_of, g_parts_of, h1, h2]) (fun sg st e => by simp [e]) st
theorem fr_addN {n : Nat} {a b q i : Int} (h : Frm n a b q) (k : Bd n i) (h1 : 2 ≤ n) (hn : n ≤ 1000) (st : Sto) : F_Form_add [fr a b q, .int i] st = .ok (fr (a + i * q) b q) st := by
  have z := fr_sum (y := .int i) h ⟨k, (show Bd 2 0 by unfold Bd; decide).mono h1, (show Bd 2 1 by unfold Bd; decide).mono h1, by decide⟩ hn (fun st => by
    have h1 := fun st => fr_of_int (i := i) st
    have h2 := fun st => fr_parts (a := i) (b := 0) (q := 1) st
    simp -implicitDefEqProofs [F_parts_of, g_parts_of, h1, h2]) (fun sg st e => by simp [e]) st
  simpa using z
theorem fr_sub {n : Nat} {a b q c e r : Int} (h : Frm n a b q) (k : Frm n c e r) (hn : n ≤ 1000) (st : Sto) : F_Form_sub [fr a b q, fr c e r] st = .ok (fr (a * r + -c * q) (b * r + -e * q) (q * r)) st := by
  have h1 := fun st => fr_of (a := c) (b := e) (q := r) st
  have h2 := fun st => fr_neg k hn st
  have h3 := fun st => fr_add h k.neg hn st
  simp -implicitDefEqProofs [F_Form_sub, g_Form_sub, h1, h2, h3, uOwn, dOwnI]
theorem fr_subN {n : Nat} {a b q i : Int} (h : Frm n a b q) (k : Bd n i) (h1 : 2 ≤ n) (hn : n ≤ 1000) (st : Sto) : F_Form_sub [fr a b q, .int i] st = .ok (fr (a + -i * q) b q) st := by
  have k1 : Frm n i 0 1 := ⟨k, (show Bd 2 0 by unfold Bd; decide).mono h1, (show Bd 2 1 by unfold Bd; decide).mono h1, by decide⟩
  have h1 := fun st => fr_of_int (i := i) st
  have h2 : ∀ st, F_Form_neg [fr i 0 1] st = .ok (fr (-i) 0 1) st := fun st => by simpa using fr_neg k1 hn st
  have h3 : ∀ st, F_Form_add [fr a b q, fr (-i) 0 1] st = .ok (fr (a + -i * q) b q) st := fun st => by simpa using fr_add h k1.neg hn st
  simp -implicitDefEqProofs [F_Form_sub, g_Form_sub, h1, h2, h3, uOwn, dOwnI]
theorem fr_mul {n : Nat} {a b q i : Int} (h : Frm n a b q) (k : Bd n i) (hn : n ≤ 1000) (st : Sto) : F_Form_mul [fr a b q, .int i] st = .ok (fr (a * i) (b * i) q) st := by
  obtain ⟨g, A, B, Q, i1, i2, i3, i4, i5, i6⟩ := row_ex (a := a) (b := b) h.pq
  have hA : Frm n A B Q := ⟨h.ba.fac i1 i2, h.bb.fac i1 i3, h.bq.fac i1 i4, i5⟩
  have e : rowD (a * i) (b * i) q = rowD (A * i) (B * i) Q := by rw [i2, i3, i4, Int.mul_assoc, Int.mul_assoc, rowD_scale i1]
  have f := fun st => fr_new (hA.mul k) (by omega) st
  have m1 : mulOk A i := hA.ba.mulOk k (by omega)
  have m2 : mulOk B i := hA.bb.mulOk k (by omega)
  show F_Form_mul [.ins 0 [rowD a b q], .int i] st = .ok (.ins 0 [rowD (a * i) (b * i) q]) st
  rw [e, i6]
  simp -implicitDefEqProofs [F_Form_mul, g_Form_mul, m1, m2, f]
theorem fr_eq {a b q c e r : Int} (hq : 1 ≤ q) (hr : 1 ≤ r) (h : rowD a b q = rowD c e r) (st : Sto) : F_Form_eq [fr a b q, fr c e r] st = .ok (.bl true) st := by
  obtain ⟨g, A, B, Q, i1, i2, i3, i4, i5, i6⟩ := row_ex (a := c) (b := e) hr
  show F_Form_eq [.ins 0 [rowD a b q], .ins 0 [rowD c e r]] st = _
  rw [h, i6]
  simp -implicitDefEqProofs [F_Form_eq, g_Form_eq]
theorem fr_call {n : Nat} {a b q x y : Int} (h : Frm n a b q) (hn : n ≤ 1000) (hx : 1 ≤ x) (hx2 : Bd n x) (e : a + b * x = q * y) (st : Sto) : F_Form_call [fr a b q, .int x] st = .ok (.int y) st := by
  obtain ⟨g, A, B, Q, i1, i2, i3, i4, i5, i6⟩ := row_ex (a := a) (b := b) h.pq
  have hA : Frm n A B Q := ⟨h.ba.fac i1 i2, h.bb.fac i1 i3, h.bq.fac i1 i4, i5⟩
  have e2 : A + B * x = Q * y := by
    rw [i2, i3, i4, Int.mul_assoc, Int.mul_assoc, ← Int.mul_add] at e
    exact Int.eq_of_mul_eq_mul_left (by omega) e
  have m1 : mulOk B x := hA.bb.mulOk hx2 (by omega)
  have d1 : divOk Q := hA.bq.divOk (by omega)
  have q0 : 0 < Q := by omega
  have x1 : ¬ x < 1 := by omega
  have w : ∀ i : Int, ∀ st, F_is_whole [.int i] st = .ok (.bl true) st := fun i st => whole_ok rfl
  have z1 : Q * y % Q = 0 := Int.mul_emod_right Q y
  have z2 : Q * y / Q = y := Int.mul_ediv_cancel_left y (by omega)
  show F_Form_call [.ins 0 [rowD a b q], .int x] st = _
  rw [i6]
  simp -implicitDefEqProofs [F_Form_call, g_Form_call, w, x1, m1, e2, q0, d1, z1, z2]
end Law
/-! sums of forms -/
namespace Law
open PySem Sh
theorem same_ok {n : Nat} {a b q c e r : Int} (h : Frm n a b q) (k : Frm n c e r) (hn : n ≤ 1000) (h1 : a * r = c * q) (h2 : b * r = e * q) (st : Sto) : F_law_same [fr a b q, .int c, .int e, .int r] st = .ok (.bl true) st := by
  have e0 : rowD a b q = rowD c e r := rowD_eq (by have := h.pq; omega) (by have := k.pq; omega) h1 h2
  have f1 := fun st => fr_new k (by omega) st
  have f2 := fun st => fr_eq (a := a) (b := b) h.pq k.pq e0 st
  obtain ⟨g, A, B, Q, i1, i2, i3, i4, i5, i6⟩ := row_ex (a := a) (b := b) h.pq
  have e1 : A * r = c * Q := by
    rw [i2, i4, Int.mul_assoc, Int.mul_left_comm c] at h1
    exact Int.eq_of_mul_eq_mul_left (by omega) h1
  have e2 : B * r = e * Q := by
    rw [i3, i4, Int.mul_assoc, Int.mul_left_comm e] at h2
    exact Int.eq_of_mul_eq_mul_left (by omega) h2
  have m1 : mulOk A r := (h.ba.fac i1 i2).mulOk k.bq (by omega)
  have m2 : mulOk c Q := k.ba.mulOk (h.bq.fac i1 i4) (by omega)
  have m3 : mulOk B r := (h.bb.fac i1 i3).mulOk k.bq (by omega)
  have m4 : mulOk e Q := k.bb.mulOk (h.bq.fac i1 i4) (by omega)
  have q0 : 0 < Q := by omega
  have p1 := fun st => fr_parts (a := a) (b := b) (q := q) st
  dsimp only [fr] at f1 f2 p1 ⊢
  rw [i6] at f2 p1 ⊢
  generalize hR2 : rowD c e r = R2 at *
  simp -implicitDefEqProofs [F_law_same, g_law_same, p1, f1, f2, dOwnNe, okEq, dNotB, m1, m2, m3, m4, q0, e1, e2]
theorem dNe_l2 {a b c d : Int} {n : Nat} {st : Sto} (h : st[n]? = some (.lst [.int c, .int d])) : dNe (.lst [.int a, .int b]) (.loc n) st = .ok (.bl !(decide (a = c) && decide (b = d))) st := by
  have k : eqOk (.lst [.int a, .int b]) (.lst [.int c, .int d]) = true := rfl
  rw [dNe_ok k rfl (by simp [resD, h])]
  have z : ∀ x y : Int, (x == y) = decide (x = y) := fun _ _ => rfl
  simp [z]
theorem dEq_l2 {a b c d : Int} {st : Sto} : dEq (.lst [.int a, .int b]) (.lst [.int c, .int d]) st = .ok (.bl (decide (a = c) && decide (b = d))) st := by
  have k : eqOk (.lst [.int a, .int b]) (.lst [.int c, .int d]) = true := rfl
  rw [dEq_ok k]
  have z : ∀ x y : Int, (x == y) = decide (x = y) := fun _ _ => rfl
  simp [z]
theorem dNe_rows {a b q c e r u v w : Int} {st : Sto} : dNe (.lst [rowD a b q, rowD c e r, rowD u v w]) (.lst [rowD a b q, rowD c e r, rowD u v w]) st = .ok (.bl false) st := by
  have k : eqOk (.lst [rowD a b q, rowD c e r, rowD u v w]) (.lst [rowD a b q, rowD c e r, rowD u v w]) = true := rfl
  rw [dNe_ok k]
  simp [rowD]
theorem last_ok {a b q c e r i t : Int} {n : Nat} {st : Sto} (h : Frm 150 a b q) (k : Frm 150 c e r) (hi : Bd 150 i) (hq : q ≤ 60) (hr : r ≤ 60) (hp : Pot st n t) (ht : t < 2 ^ 50) (x1 x2 x3 x4 x5 x6 x7 x15 x16 x17 x18 x19 x20 x21 x22 x23 x24 x25 x26 : Option D) :
    ∃ st', b_law_right_6 [some (.loc n), x1, x2, x3, x4, x5, x6, x7, some (.int i), some (.int a), some (.int b), some (.int q), some (.int c), some (.int e), some (.int r), x15, x16, x17, x18, x19, x20, x21, x22, x23, x24, x25, x26] st = .ret (.bl true) st' ∧ Pot st' n (t + 1) := by
  obtain ⟨d, s1, e1, l1, u1, p1⟩ := dip_to hp (m := 9) (by omega) (by decide) (by decide)
  have hq1 := h.pq
  have hr1 := k.pq
  have bq : Bd 7 q := .of (by omega) (by omega)
  have br : Bd 7 r := .of (by omega) (by omega)
  have bd : Bd 5 (1 + d) := .of (by omega) (by omega)
  have m1 : mulOk q r := bq.mulOk br
  have m2 : mulOk (q * r) (1 + d) := (bq.mul br).mulOk bd
  have bx : Bd 19 (q * r * (1 + d)) := (bq.mul br).mul bd
  have x1' : 1 ≤ q * r * (1 + d) := by
    have := Int.mul_le_mul hq1 hr1 (by decide) (by omega)
    have := Int.mul_le_mul (show 1 ≤ q * r by omega) (show 1 ≤ 1 + d by omega) (by decide) (by omega)
    omega
  have ex1 : b * (q * r * (1 + d)) = q * (b * r * (1 + d)) := by
    rw [Int.mul_assoc q, Int.mul_left_comm b, Int.mul_assoc b]
  have ex2 : e * (q * r * (1 + d)) = r * (e * q * (1 + d)) := by
    rw [Int.mul_comm q r, Int.mul_assoc r, Int.mul_left_comm e, Int.mul_assoc e]
  generalize hx : q * r * (1 + d) = x at *
  generalize hy1 : b * r * (1 + d) = y1 at *
  generalize hy2 : e * q * (1 + d) = y2 at *
  have k1 : mulOk a q := h.ba.mulOk bq
  have k2 : mulOk c r := k.ba.mulOk br
  have k3 : mulOk b x := h.bb.mulOk bx
  have k4 : mulOk e x := k.bb.mulOk bx
  have d1 : divOk q := bq.divOk
  have d2 : divOk r := br.divOk
  have q0 : 0 < q := by omega
  have r0 : 0 < r := by omega
  have v1 : b * x / q = y1 := by rw [ex1]; exact Int.mul_ediv_cancel_left _ (by omega)
  have v2 : e * x / r = y2 := by rw [ex2]; exact Int.mul_ediv_cancel_left _ (by omega)
  have w1 : Frm 160 (a * q) b q := ⟨(h.ba.mul bq).mono (by decide), h.bb.mono (by decide), bq.mono (by decide), hq1⟩
  have w2 : Frm 160 (c * r) e r := ⟨(k.ba.mul br).mono (by decide), k.bb.mono (by decide), br.mono (by decide), hr1⟩
  have n1 := fun st => fr_new w1 (by decide) st
  have n2 := fun st => fr_new w2 (by decide) st
  have t1 : a * q + b * x = q * (a + y1) := by rw [ex1, Int.mul_comm a q, ← Int.mul_add]
  have t2 : c * r + e * x = r * (c + y2) := by rw [ex2, Int.mul_comm c r, ← Int.mul_add]
  have c1 := fun st => fr_call (w1.mono (show 160 ≤ 1000 by decide)) (by decide) x1' (bx.mono (by decide)) t1 st
  have c2 := fun st => fr_call (w2.mono (show 160 ≤ 1000 by decide)) (by decide) x1' (bx.mono (by decide)) t2 st
  have a1 := fun st => fr_add w1 w2 (by decide) st
  have a2 := fun st => fr_mul w1 (hi.mono (by decide)) (by decide) st
  have t3 : a * q * r + c * r * q + (b * r + e * q) * x = q * r * ((a + y1) + (c + y2)) := by
    have z1 : (b * r + e * q) * x = r * (b * x) + q * (e * x) := by
      rw [Int.add_mul, Int.mul_comm b r, Int.mul_comm e q, Int.mul_assoc, Int.mul_assoc]
    have z2 : q * r * ((a + y1) + (c + y2)) = r * (q * (a + y1)) + q * (r * (c + y2)) := by
      rw [Int.mul_add, Int.mul_assoc q r (c + y2), Int.mul_comm q r, Int.mul_assoc r q]
    rw [z1, z2, ← t1, ← t2, Int.mul_add, Int.mul_add, Int.mul_comm (a * q) r, Int.mul_comm (c * r) q]
    omega
  have t4 : a * q * i + b * i * x = q * ((a + y1) * i) := by
    rw [← Int.mul_assoc, ← t1, Int.add_mul, Int.mul_assoc b i x, Int.mul_comm i x, Int.mul_assoc b x i]
  have c3 := fun st => fr_call ((w1.add w2).mono (show 2 * 160 + 1 ≤ 1000 by decide)) (by decide) x1' (bx.mono (by decide)) t3 st
  have c4 := fun st => fr_call ((w1.mul (hi.mono (show 150 ≤ 160 by decide))).mono (show 2 * 160 ≤ 1000 by decide)) (by decide) x1' (bx.mono (by decide)) t4 st
  have k5 : mulOk (a + y1) i := by
    have : Bd 200 y1 := by rw [← hy1]; exact ((h.bb.mul br).mul bd).mono (by decide)
    exact (h.ba.add this).mulOk hi
  dsimp only [fr] at n1 n2 c1 c2 a1 a2 c3 c4
  generalize rowD (a * q) b q = R1 at *
  generalize rowD (c * r) e r = R2 at *
  generalize rowD (a * q * r + c * r * q) (b * r + e * q) (q * r) = R3 at *
  generalize rowD (a * q * i) (b * i) q = R4 at *
  generalize hs : s1.length = L
  have lc1 : ∀ (sg : Sg) (s : Sto), sg.length = 27 → sg[24]? = some (some (.int x)) → s[L]? = some (.lst [.ins 0 [R1], .ins 0 [R2]]) →
      lcF (fun st => st[L]? = some (.lst [.ins 0 [R1], .ins 0 [R2]])) (.one 6) tYesD b_law_right_4 sg [.ins 0 [R1], .ins 0 [R2]] s = .ok [.int (a + y1), .int (c + y2)] s := fun sg s h1 h2 h3 => by
    have h6 : ∀ d, (sg.set 6 d)[6]? = some d := fun d => by simp [h1]
    have h24 : ∀ d, (sg.set 6 d)[24]? = some (some (.int x)) := fun d => by rw [List.getElem?_set_ne (by decide)]; exact h2
    simp -implicitDefEqProofs [lcF, at_b_law_right_4, h6, h24, h3, isObj, c1, c2]
  have lc2 : ∀ (sg : Sg) (s : Sto), sg.length = 27 → sg[24]? = some (some (.int x)) →
      lcF (fun st => True) (.one 6) tYesD b_law_right_5 sg [.ins 0 [R3], .ins 0 [R4]] s = .ok [.int ((a + y1) + (c + y2)), .int ((a + y1) * i)] s := fun sg s h1 h2 => by
    have h6 : ∀ d, (sg.set 6 d)[6]? = some d := fun d => by simp [h1]
    have h24 : ∀ d, (sg.set 6 d)[24]? = some (some (.int x)) := fun d => by rw [List.getElem?_set_ne (by decide)]; exact h2
    simp -implicitDefEqProofs [lcF, at_b_law_right_5, h6, h24, isObj, c3, c4]
  refine ⟨s1 ++ [.lst [.ins 0 [R1], .ins 0 [R2]], .lst [.int (a + y1), .int (c + y2)]], ?_, p1.append _⟩
  rw [at_b_law_right_6]
  have g0 : ∀ (x y : SO), (s1 ++ [x, y])[L]? = some x := fun x y => by rw [← hs]; simp
  have g1 : ∀ (x y : SO), (s1 ++ [x, y])[L + 1]? = some y := fun x y => by rw [← hs, List.getElem?_append_right (by omega)]; simp
  have g2 : ∀ (x : SO), (s1 ++ [x])[L]? = some x := fun x => by rw [← hs]; simp
  have g3 : ∀ (x y : SO), (s1 ++ [x]).set L y = s1 ++ [y] := fun x y => by rw [← hs]; simp
  have g4 : ∀ (x y z : SO), (s1 ++ [x, y]).set (L + 1) z = s1 ++ [x, z] := fun x y z => by rw [← hs, List.set_append_right _ _ (by omega)]; simp
  have dn := dNe_l2 (a := a + y1) (b := c + y2) (g1 (.lst [.ins 0 [R1], .ins 0 [R2]]) (.lst [.int (a + y1), .int (c + y2)]))
  simp -implicitDefEqProofs [e1, m1, m2, hx, k1, k2, k3, k4, n1, n2, hs, mApp, g0, g1, g2, g3, g4, v1, v2, q0, r0, d1, d2, lcR, lc1, lc2, dn, dEq_l2, dOwnI, dOwnN, a1, a2, k5]
theorem good_ok {n L : Nat} {st : Sto} {a b q c e r u v w i t : Int} (h : Frm 150 a b q) (k : Frm 150 c e r) (hi : Bd 150 i) (hq : q ≤ 60) (hr : r ≤ 60) (hp : Pot st n t) (ht : t < 2 ^ 50)
    (hL : st[L]? = some (.lst [.bl true, .bl true, .bl true, .bl true, .bl true, .bl true, .bl true, .bl true, .bl true, .bl true, .bl true, .bl true])) (x1 x2 x4 x6 x7 x15 x16 x17 x18 x19 x20 x22 x23 x24 x25 x26 : Option D) :
    ∃ st', b_law_right_7 [some (.loc n), x1, x2, some (.lst [fr a b q, fr c e r, fr u v w]), x4, some (.lst [rowD a b q, rowD c e r, rowD u v w]), x6, x7, some (.int i), some (.int a), some (.int b), some (.int q), some (.int c), some (.int e), some (.int r), x15, x16, x17, x18, x19, x20, some (.loc L), x22, x23, x24, x25, x26] st = .ret (.bl true) st' ∧ Pot st' n (t + 1) := by
  obtain ⟨s', e1, p1⟩ := last_ok h k hi hq hr hp ht x1 x2 (some (.lst [fr a b q, fr c e r, fr u v w])) x4 (some (.lst [rowD a b q, rowD c e r, rowD u v w])) x6 x7 x15 x16 x17 x18 x19 x20 (some (.loc L)) x22 x23 x24 x25 x26
  refine ⟨s', ?_, p1⟩
  have f1 : dInL false (.bl false) (.loc L) st = .ok (.bl false) st := by
    unfold dInL
    simp [hL, dFlat]
  have f2 := fun st => fr_parts (a := a) (b := b) (q := q) st
  have f3 := fun st => fr_parts (a := c) (b := e) (q := r) st
  have f4 := fun st => fr_parts (a := u) (b := v) (q := w) st
  have lc : ∀ (sg : Sg), sg.length = 27 → lcF (fun st => True) (.one 6) tYesD b_law_right_3 sg [fr a b q, fr c e r, fr u v w] st = .ok [rowD a b q, rowD c e r, rowD u v w] st := fun sg h1 => by
    have h6 : ∀ d, (sg.set 6 d)[6]? = some d := fun d => by simp [h1]
    simp -implicitDefEqProofs [lcF, at_b_law_right_3, h6, f2, f3, f4]
  have dn := dNe_rows (a := a) (b := b) (q := q) (c := c) (e := e) (r := r) (u := u) (v := v) (w := w) (st := st)
  rw [at_b_law_right_7]
  simp -implicitDefEqProofs [f1, lcR, lc, dn, e1]
theorem app_ok {s : Sto} {L : Nat} {xs : List D} {d : D} (h : s[L]? = some (.lst xs)) (hl : xs.length < 16777216) : mApp (.loc L) [d] s = .ok .non (s.set L (.lst (xs ++ [d]))) := by
  simp [mApp, h, hl]
theorem pot_set {s : Sto} {n L : Nat} {t : Int} {o : SO} (h : Pot s n t) (e : L ≠ n) : Pot (s.set L o) n t :=
  let ⟨p, c, u, h1, h2⟩ := h; ⟨p, c, u, by rw [List.getElem?_set_ne e]; exact h1, h2⟩
/-- a value that is true is put behind -/
theorem app_step {s : Sto} {L : Nat} {xs : List D} {f : EF} {sg : Sg} {rest : SF} (hg : sg[21]? = some (some (.loc L))) (h : s[L]? = some (.lst xs)) (hl : xs.length < 16777216) (hf : f sg s = .ok (.bl true) s) :
    sSeq (sDrop (fBM "list" mApp (fVar 21) (aCons f aNil))) rest sg s = rest sg (s.set L (.lst (xs ++ [.bl true]))) := by
  have a := app_ok (d := .bl true) h hl
  simp -implicitDefEqProofs [hg, h, hf, a]
theorem set_step {s : Sto} {i : Nat} {f : EF} {sg : Sg} {rest : SF} {d : D} (hf : f sg s = .ok d s) : sSeq (sSet i f) rest sg s = rest (sg.set i (some d)) s := by
  simp -implicitDefEqProofs [hf]
theorem set_at {s : Sto} {L : Nat} {o x : SO} (h : s[L]? = some x) : (s.set L o)[L]? = some o := by
  have := (List.getElem?_eq_some_iff.mp h).1
  simp [this]
theorem r_comm {a b q c e r : Int} (hq : 0 < q) (hr : 0 < r) : rowD (a * r + c * q) (b * r + e * q) (q * r) = rowD (c * q + a * r) (e * q + b * r) (r * q) := rowD_eq (Int.mul_pos hq hr) (Int.mul_pos hr hq) (by grind) (by grind)
theorem r_assoc {a b q c e r u v w : Int} (hq : 0 < q) (hr : 0 < r) (hw : 0 < w) : rowD ((a * r + c * q) * w + u * (q * r)) ((b * r + e * q) * w + v * (q * r)) (q * r * w) = rowD (a * (r * w) + (c * w + u * r) * q) (b * (r * w) + (e * w + v * r) * q) (q * (r * w)) := rowD_eq (Int.mul_pos (Int.mul_pos hq hr) hw) (Int.mul_pos hq (Int.mul_pos hr hw)) (by grind) (by grind)
theorem r_back {a b q c e r : Int} (hq : 0 < q) (hr : 0 < r) : rowD ((a * r + -c * q) * r + c * (q * r)) ((b * r + -e * q) * r + e * (q * r)) (q * r * r) = rowD a b q := rowD_eq (Int.mul_pos (Int.mul_pos hq hr) hr) hq (by grind) (by grind)
theorem r_zero {a b q : Int} (hq : 0 < q) : rowD (a * q + -a * q) (b * q + -b * q) (q * q) = rowD 0 0 1 := rowD_eq (Int.mul_pos hq hq) (by decide) (by grind) (by grind)
theorem r_dist {a b q c e r i : Int} (hq : 0 < q) (hr : 0 < r) : rowD ((a * r + c * q) * i) ((b * r + e * q) * i) (q * r) = rowD (a * i * r + c * i * q) (b * i * r + e * i * q) (q * r) := rowD_eq (Int.mul_pos hq hr) (Int.mul_pos hq hr) (by grind) (by grind)
theorem r_none {a b q : Int} (hq : 0 < q) : rowD (a * 0) (b * 0) q = rowD 0 0 1 := rowD_eq hq (by decide) (by grind) (by grind)
theorem more_ok {n L : Nat} {st : Sto} {a b q c e r u v w i t : Int} (h : Frm 150 a b q) (k : Frm 150 c e r) (z : Frm 150 u v w) (hi : Bd 150 i) (hq : q ≤ 60) (hr : r ≤ 60) (hp : Pot st n t) (ht : t < 2 ^ 50) (hn : L ≠ n)
    (hL : st[L]? = some (.lst [.bl true, .bl true, .bl true, .bl true, .bl true, .bl true])) (x1 x2 x4 x6 x7 x18 x19 x20 x22 x23 x24 x25 x26 : Option D) :
    ∃ st', b_law_right_8 [some (.loc n), x1, x2, some (.lst [fr a b q, fr c e r, fr u v w]), x4, some (.lst [rowD a b q, rowD c e r, rowD u v w]), x6, x7, some (.int i), some (.int a), some (.int b), some (.int q), some (.int c), some (.int e), some (.int r), some (fr a b q), some (fr c e r), some (fr u v w), x18, x19, x20, some (.loc L), x22, x23, x24, x25, x26] st = .ret (.bl true) st' ∧ Pot st' n (t + 1) := by
  have hq0 := h.pq
  have hr0 := k.pq
  have hw0 := z.pq
  have pqr := (h.add k).pq
  have a12 := fun st => fr_add h k (by decide) st
  have a21 := fun st => fr_add k h (by decide) st
  have a12_3 := fun st => fr_add (h.add k) (z.mono (show 150 ≤ 2 * 150 + 1 by decide)) (by decide) st
  have a23 := fun st => fr_add k z (by decide) st
  have a1_23 := fun st => fr_add (h.mono (show 150 ≤ 2 * 150 + 1 by decide)) (k.add z) (by decide) st
  have s12 := fun st => fr_sub h k (by decide) st
  have s12_2 := fun st => fr_add (h.add k.neg) (k.mono (show 150 ≤ 2 * 150 + 1 by decide)) (by decide) st
  have n1 := fun st => fr_neg h (by decide) st
  have n2 := fun st => fr_neg h.neg (by decide) st
  have s11 := fun st => fr_sub h h (by decide) st
  have f0 : ∀ st, mkF 0 F_Form_init 4 [.int 0, .int 1] [.int 0] st = .ok (fr 0 0 1) st := fun st => by
    rw [mkF_dds]
    exact form_new (by decide) (by decide) (by decide)
  have m1 := fun st => fr_mul h hi (by decide) st
  have m2 := fun st => fr_mul k hi (by decide) st
  have m12 := fun st => fr_mul (h.add k) (hi.mono (show 150 ≤ 2 * 150 + 1 by decide)) (by decide) st
  have am := fun st => fr_add (h.mul hi) (k.mul hi) (by decide) st
  have o1 := fun st => fr_mul h (show Bd 150 1 by unfold Bd; decide) (by decide) st
  have o0 := fun st => fr_mul h (show Bd 150 0 by unfold Bd; decide) (by decide) st
  have q0 : 0 < q := by omega
  have r0 : 0 < r := by omega
  have w0 : 0 < w := by omega
  have e1 := fun st => fr_eq (h.add k).pq (k.add h).pq (r_comm (a := a) (b := b) (c := c) (e := e) q0 r0) st
  have e2 := fun st => fr_eq ((h.add k).add (z.mono (show 150 ≤ 2 * 150 + 1 by decide))).pq ((h.mono (show 150 ≤ 2 * 150 + 1 by decide)).add (k.add z)).pq (r_assoc (a := a) (b := b) (c := c) (e := e) (u := u) (v := v) q0 r0 w0) st
  have e3 := fun st => fr_eq ((h.add k.neg).add (k.mono (show 150 ≤ 2 * 150 + 1 by decide))).pq h.pq (r_back (a := a) (b := b) (c := c) (e := e) q0 r0) st
  have e4 := fun st => fr_eq (a := - -a) (b := - -b) h.neg.neg.pq h.pq (by rw [Int.neg_neg, Int.neg_neg]) st
  have e5 := fun st => fr_eq (h.add h.neg).pq (show (1 : Int) ≤ 1 by decide) (r_zero (a := a) (b := b) q0) st
  have e6 := fun st => fr_eq ((h.add k).mul (hi.mono (show 150 ≤ 2 * 150 + 1 by decide))).pq ((h.mul hi).add (k.mul hi)).pq (r_dist (a := a) (b := b) (c := c) (e := e) (i := i) q0 r0) st
  have e7 := fun st => fr_eq (a := a * 1) (b := b * 1) (h.mul (show Bd 150 1 by unfold Bd; decide)).pq h.pq (by rw [Int.mul_one, Int.mul_one]) st
  have e8 := fun st => fr_eq (a := a * 0) (b := b * 0) (h.mul (show Bd 150 0 by unfold Bd; decide)).pq (show (1 : Int) ≤ 1 by decide) (r_none (a := a) (b := b) q0) st
  have last := fun (s : Sto) (hs : s[L]? = some (.lst [.bl true, .bl true, .bl true, .bl true, .bl true, .bl true, .bl true, .bl true, .bl true, .bl true, .bl true, .bl true])) (ps : Pot s n t) x23 => good_ok (u := u) (v := v) (w := w) h k hi hq hr ps ht hs x1 x2 x4 x6 x7 (some (fr a b q)) (some (fr c e r)) (some (fr u v w)) x18 x19 x20 x22 x23 x24 x25 x26
  dsimp only [fr] at a12 a21 a12_3 a23 a1_23 s12 s12_2 n1 n2 s11 f0 m1 m2 m12 am o1 o0 e1 e2 e3 e4 e5 e6 e7 e8 last ⊢
  generalize rowD ((a * r + c * q) * w + u * (q * r)) ((b * r + e * q) * w + v * (q * r)) (q * r * w) = R12_3 at *
  generalize rowD (a * (r * w) + (c * w + u * r) * q) (b * (r * w) + (e * w + v * r) * q) (q * (r * w)) = R1_23 at *
  generalize rowD ((a * r + -c * q) * r + c * (q * r)) ((b * r + -e * q) * r + e * (q * r)) (q * r * r) = R122 at *
  generalize rowD ((a * r + c * q) * i) ((b * r + e * q) * i) (q * r) = M12 at *
  generalize rowD (a * i * r + c * i * q) (b * i * r + e * i * q) (q * r) = N12 at *
  generalize rowD (a * r + c * q) (b * r + e * q) (q * r) = R12 at *
  generalize rowD (c * q + a * r) (e * q + b * r) (r * q) = R21 at *
  generalize rowD (c * w + u * r) (e * w + v * r) (r * w) = R23 at *
  generalize rowD (a * r + -c * q) (b * r + -e * q) (q * r) = S12 at *
  generalize rowD (a * q + -a * q) (b * q + -b * q) (q * q) = S11 at *
  generalize rowD (- -a) (- -b) q = NN at *
  generalize rowD (-a) (-b) q = N1 at *
  generalize rowD (a * i) (b * i) q = M1 at *
  generalize rowD (c * i) (e * i) r = M2 at *
  generalize rowD (a * 1) (b * 1) q = O1 at *
  generalize rowD (a * 0) (b * 0) q = O0 at *
  generalize rowD 0 0 1 = Z at *
  generalize rowD a b q = R1 at *
  generalize rowD c e r = R2 at *
  generalize rowD u v w = R3 at *
  rw [at_b_law_right_8]
  have p0 := hp
  have hL0 := hL
  have hL1 := set_at hL0 (o := .lst ([.bl true, .bl true, .bl true, .bl true, .bl true, .bl true] ++ [.bl true]))
  have p1 := pot_set (o := .lst ([.bl true, .bl true, .bl true, .bl true, .bl true, .bl true] ++ [.bl true])) p0 hn
  have hL2 := set_at hL1 (o := .lst (([.bl true, .bl true, .bl true, .bl true, .bl true, .bl true] ++ [.bl true]) ++ [.bl true]))
  have p2 := pot_set (o := .lst (([.bl true, .bl true, .bl true, .bl true, .bl true, .bl true] ++ [.bl true]) ++ [.bl true])) p1 hn
  have hL3 := set_at hL2 (o := .lst ((([.bl true, .bl true, .bl true, .bl true, .bl true, .bl true] ++ [.bl true]) ++ [.bl true]) ++ [.bl true]))
  have p3 := pot_set (o := .lst ((([.bl true, .bl true, .bl true, .bl true, .bl true, .bl true] ++ [.bl true]) ++ [.bl true]) ++ [.bl true])) p2 hn
  have hL4 := set_at hL3 (o := .lst (((([.bl true, .bl true, .bl true, .bl true, .bl true, .bl true] ++ [.bl true]) ++ [.bl true]) ++ [.bl true]) ++ [.bl true]))
  have p4 := pot_set (o := .lst (((([.bl true, .bl true, .bl true, .bl true, .bl true, .bl true] ++ [.bl true]) ++ [.bl true]) ++ [.bl true]) ++ [.bl true])) p3 hn
  have hL5 := set_at hL4 (o := .lst ((((([.bl true, .bl true, .bl true, .bl true, .bl true, .bl true] ++ [.bl true]) ++ [.bl true]) ++ [.bl true]) ++ [.bl true]) ++ [.bl true]))
  have p5 := pot_set (o := .lst ((((([.bl true, .bl true, .bl true, .bl true, .bl true, .bl true] ++ [.bl true]) ++ [.bl true]) ++ [.bl true]) ++ [.bl true]) ++ [.bl true])) p4 hn
  have hL6 := set_at hL5 (o := .lst (((((([.bl true, .bl true, .bl true, .bl true, .bl true, .bl true] ++ [.bl true]) ++ [.bl true]) ++ [.bl true]) ++ [.bl true]) ++ [.bl true]) ++ [.bl true]))
  have p6 := pot_set (o := .lst (((((([.bl true, .bl true, .bl true, .bl true, .bl true, .bl true] ++ [.bl true]) ++ [.bl true]) ++ [.bl true]) ++ [.bl true]) ++ [.bl true]) ++ [.bl true])) p5 hn
  obtain ⟨s', el, pl⟩ := last _ hL6 p6 (some (.lst [.ins 0 [M1], .ins 0 [M2]]))
  refine ⟨s', ?_, pl⟩
  rw [app_step rfl hL0 (by decide) (by simp -implicitDefEqProofs [dOwnI, dOwnE, okEq, a12, a21, e1])]
  rw [app_step rfl hL1 (by decide) (by simp -implicitDefEqProofs [dOwnI, dOwnE, okEq, a12, a12_3, a23, a1_23, e2])]
  rw [app_step rfl hL2 (by decide) (by simp -implicitDefEqProofs [dOwnI, dOwnE, okEq, s12, s12_2, e3, n1, n2, e4, uOwn])]
  rw [app_step rfl hL3 (by decide) (by simp -implicitDefEqProofs [dOwnI, dOwnE, okEq, s11, f0, e5])]
  rw [set_step (d := .lst [.ins 0 [M1], .ins 0 [M2]]) (by simp -implicitDefEqProofs [dOwnN, m1, m2])]
  rw [app_step rfl hL4 (by decide) (by simp -implicitDefEqProofs [dOwnI, dOwnN, dOwnE, okEq, a12, m12, am, e6])]
  rw [app_step rfl hL5 (by decide) (by simp -implicitDefEqProofs [dOwnN, dOwnE, okEq, o1, e7, o0, f0, e8])]
  exact el
theorem first_ok {n : Nat} {st : Sto} {a b q c e r u v w i j t : Int} (h : Frm 150 a b q) (k : Frm 150 c e r) (z : Frm 150 u v w) (hi : Bd 150 i) (hj : Bd 150 j) (hq : q ≤ 60) (hr : r ≤ 60) (hp : Pot st n t) (ht : t < 2 ^ 50) (x1 x2 x4 x6 x21 x22 x23 x24 x25 x26 : Option D) :
    ∃ st', b_law_right_9 [some (.loc n), x1, x2, some (.lst [fr a b q, fr c e r, fr u v w]), x4, some (.lst [rowD a b q, rowD c e r, rowD u v w]), x6, some (.int j), some (.int i), some (.int a), some (.int b), some (.int q), some (.int c), some (.int e), some (.int r), some (fr a b q), some (fr c e r), some (fr u v w), some (.lst [.int (a * r), .int (c * q)]), some (.lst [.int (b * r), .int (e * q)]), some (.lst [.int (a * r + c * q), .int (b * r + e * q)]), x21, x22, x23, x24, x25, x26] st = .ret (.bl true) st' ∧ Pot st' n (t + 1) := by
  have hnl : n < st.length := let ⟨p, c, u, h1, h2⟩ := hp; (List.getElem?_eq_some_iff.mp h1).1
  have hq0 := h.pq
  have g1 := (h.add k)
  have g2 := (h.add k.neg)
  have g2' : Frm (2 * 150 + 1) (a * r - c * q) (b * r - e * q) (q * r) := by
    have e1 : a * r - c * q = a * r + -c * q := by grind
    have e2 : b * r - e * q = b * r + -e * q := by grind
    rw [e1, e2]; exact g2
  have bj : Bd 452 (j * q) := (hj.mul h.bq).mono (by decide)
  have g3 : Frm 1000 (a + j * q) b q := ⟨(h.ba.add bj).mono (by decide), h.bb.mono (by decide), h.bq.mono (by decide), hq0⟩
  have g4 : Frm 1000 (a - j * q) b q := ⟨(h.ba.sub bj).mono (by decide), h.bb.mono (by decide), h.bq.mono (by decide), hq0⟩
  have g4' : Frm 1000 (a + -j * q) b q := by
    have e1 : a + -j * q = a - j * q := by grind
    rw [e1]; exact g4
  have g5 : Frm 150 (0 - a) (0 - b) q := by
    have e1 : 0 - a = -a := by omega
    have e2 : 0 - b = -b := by omega
    rw [e1, e2]; exact h.neg
  have a1 := fun st => fr_add h k (by decide) st
  have a2 := fun st => fr_sub h k (by decide) st
  have a3 := fun st => fr_addN h hj (by decide) (by decide) st
  have a4 := fun st => fr_subN h hj (by decide) (by decide) st
  have a5 := fun st => fr_neg h (by decide) st
  have a6 := fun st => fr_mul h hi (by decide) st
  have t1 := fun st => same_ok g1 g1 (by decide) rfl rfl st
  have t2 := fun st => same_ok g2 g2' (by decide) (by grind) (by grind) st
  have t3 := fun st => same_ok g3 g3 (by decide) rfl rfl st
  have t4 := fun st => same_ok g4' g4 (by decide) (by grind) (by grind) st
  have t5 := fun st => same_ok h.neg h.neg (by decide) rfl rfl st
  have t6 := fun st => same_ok (h.mul hi) (h.mul hi) (by decide) rfl rfl st
  have k1 : mulOk q r := h.bq.mulOk k.bq
  have k2 : mulOk j q := hj.mulOk h.bq
  have k3 : mulOk a i := h.ba.mulOk hi
  have k4 : mulOk b i := h.bb.mulOk hi
  generalize hL : st.length = L at *
  have hn : L ≠ n := by omega
  have hL0 : (st ++ [SO.lst [.bl true]])[L]? = some (.lst [.bl true]) := by rw [← hL]; simp
  have p0 : Pot (st ++ [SO.lst [.bl true]]) n t := hp.append _
  have hL1 := set_at hL0 (o := .lst ([.bl true] ++ [.bl true]))
  have p1 := pot_set (o := .lst ([.bl true] ++ [.bl true])) p0 hn
  have hL2 := set_at hL1 (o := .lst (([.bl true] ++ [.bl true]) ++ [.bl true]))
  have p2 := pot_set (o := .lst (([.bl true] ++ [.bl true]) ++ [.bl true])) p1 hn
  have hL3 := set_at hL2 (o := .lst ((([.bl true] ++ [.bl true]) ++ [.bl true]) ++ [.bl true]))
  have p3 := pot_set (o := .lst ((([.bl true] ++ [.bl true]) ++ [.bl true]) ++ [.bl true])) p2 hn
  have hL4 := set_at hL3 (o := .lst (((([.bl true] ++ [.bl true]) ++ [.bl true]) ++ [.bl true]) ++ [.bl true]))
  have p4 := pot_set (o := .lst (((([.bl true] ++ [.bl true]) ++ [.bl true]) ++ [.bl true]) ++ [.bl true])) p3 hn
  have hL5 := set_at hL4 (o := .lst ((((([.bl true] ++ [.bl true]) ++ [.bl true]) ++ [.bl true]) ++ [.bl true]) ++ [.bl true]))
  have p5 := pot_set (o := .lst ((((([.bl true] ++ [.bl true]) ++ [.bl true]) ++ [.bl true]) ++ [.bl true]) ++ [.bl true])) p4 hn
  obtain ⟨s', el, pl⟩ := more_ok (n := n) (L := L) h k z hi hq hr p5 ht hn hL5 x1 x2 x4 x6 (some (.int j)) (some (.lst [.int (a * r), .int (c * q)])) (some (.lst [.int (b * r), .int (e * q)])) (some (.lst [.int (a * r + c * q), .int (b * r + e * q)])) (some (.lst [.int (a * r - c * q), .int (b * r - e * q)])) x23 x24 x25 x26
  refine ⟨s', ?_, pl⟩
  dsimp only [fr] at a1 a2 a3 a4 a5 a6 t1 t2 t3 t4 t5 t6 el ⊢
  rw [at_b_law_right_9]
  have st1 : ∀ (f : EF) (rest : SF) (sg : Sg), f sg st = .ok (.loc L) (st ++ [.lst [.bl true]]) → sSeq (sSet 21 f) rest sg st = rest (sg.set 21 (some (.loc L))) (st ++ [.lst [.bl true]]) := fun f rest sg hf => by simp -implicitDefEqProofs [hf]
  rw [st1 _ _ _ (by simp -implicitDefEqProofs [dOwnI, a1, t1, k1, hL])]
  rw [set_step (d := .lst [.int (a * r - c * q), .int (b * r - e * q)]) (by simp -implicitDefEqProofs)]
  rw [app_step rfl hL0 (by decide) (by simp -implicitDefEqProofs [dOwnI, a2, t2, k1])]
  rw [app_step rfl hL1 (by decide) (by simp -implicitDefEqProofs [dOwnN, a3, t3, k2])]
  rw [app_step rfl hL2 (by decide) (by simp -implicitDefEqProofs [dOwnN, a4, t4, k2])]
  rw [app_step rfl hL3 (by decide) (by simp -implicitDefEqProofs [uOwn, a5, t5])]
  rw [app_step rfl hL4 (by decide) (by simp -implicitDefEqProofs [dOwnN, a6, t6, k3, k4])]
  exact el
theorem tail_ok {n : Nat} {st : Sto} {a b q c e r u v w t : Int} (h : Frm 150 a b q) (k : Frm 150 c e r) (z : Frm 150 u v w) (hq : q ≤ 60) (hr : r ≤ 60) (hp : Pot st n t) (ht : t < 2 ^ 49) (x2 x4 x6 x7 x8 x9 x10 x11 x12 x13 x14 x15 x16 x17 x18 x19 x20 x21 x22 x23 x24 x25 x26 : Option D) :
    ∃ st', b_law_right_10 [some (.loc n), some (.lst [row a b q, row c e r, row u v w]), x2, some (.lst [fr a b q, fr c e r, fr u v w]), x4, some (.lst [rowD a b q, rowD c e r, rowD u v w]), x6, x7, x8, x9, x10, x11, x12, x13, x14, x15, x16, x17, x18, x19, x20, x21, x22, x23, x24, x25, x26] st = .ret (.bl true) st' ∧ Pot st' n (t + 9) := by
  obtain ⟨j, s1, e1, l1, u1, p1⟩ := number_ok hp (by omega)
  obtain ⟨d1, s2, e2, l2, u2, p2⟩ := dip_to p1 (m := 60) (by omega) (by decide) (by decide)
  obtain ⟨d2, s3, e3, l3, u3, p3⟩ := dip_to p2 (m := 10 ^ 12) (by omega) (by decide) (by decide)
  obtain ⟨d3, s4, e4, l4, u4, p4⟩ := dip_to p3 (m := 2) (by omega) (by decide) (by decide)
  have w12 : powOk 10 12 := by decide
  have e3' : F_law_dip [.loc n, .int 1000000000000] s2 = .ok (.int d2) s3 := e3
  have k1 : mulOk a r := h.ba.mulOk k.bq
  have k2 : mulOk c q := k.ba.mulOk h.bq
  have k3 : mulOk b r := h.bb.mulOk k.bq
  have k4 : mulOk e q := k.bb.mulOk h.bq
  have hd : d3 = 0 ∨ d3 = 1 := by omega
  have hi : ∃ i : Int, Bd 150 i ∧ [D.int d1, D.int (-d2)][d3.toNat]? = some (.int i) := by
    rcases hd with rfl | rfl
    · exact ⟨d1, .of (by omega) (by omega), rfl⟩
    · exact ⟨-d2, .of (by omega) (by omega), rfl⟩
  obtain ⟨i, bi, hi⟩ := hi
  obtain ⟨s', el, pl⟩ := first_ok (j := j) h k z bi (.of (by omega) (by omega)) hq hr p4 (by omega) (some (.lst [row a b q, row c e r, row u v w])) x2 x4 x6 x21 x22 x23 x24 x25 x26
  refine ⟨s', ?_, pl.le (by omega)⟩
  rw [at_b_law_right_10]
  simp -implicitDefEqProofs [e1, e2, e3', e4, w12, l4, hi, k1, k2, k3, k4, el]
theorem right_ok {n : Nat} {t : Int} {st : Sto} (hp : Pot st n t) (ht : t < 2 ^ 48) : ∃ st', F_law_right [.loc n] st = .ok (.bl true) st' ∧ Pot st' n (t + 60) := by
  obtain ⟨a, b, q, s1, e1, a1, a2, a3, a4, p1⟩ := draw_ok hp (by omega)
  obtain ⟨c, e, r, s2, e2, b1, b2, b3, b4, p2⟩ := draw_ok p1 (by omega)
  obtain ⟨u, v, w, s3, e3, c1, c2, c3, c4, p3⟩ := draw_ok p2 (by omega)
  have h : Frm 150 a b q := ⟨.of (by omega) (by omega), .of (by omega) (by omega), .of (by omega) (by omega), a3⟩
  have k : Frm 150 c e r := ⟨.of (by omega) (by omega), .of (by omega) (by omega), .of (by omega) (by omega), b3⟩
  have z : Frm 150 u v w := ⟨.of (by omega) (by omega), .of (by omega) (by omega), .of (by omega) (by omega), c3⟩
  have n1 := fun st => fr_new h (by decide) st
  have n2 := fun st => fr_new k (by decide) st
  have n3 := fun st => fr_new z (by decide) st
  have f1 := fun st => fr_parts (a := a) (b := b) (q := q) st
  have f2 := fun st => fr_parts (a := c) (b := e) (q := r) st
  have f3 := fun st => fr_parts (a := u) (b := v) (q := w) st
  have r3 : rngD 0 3 = [.int 0, .int 1, .int 2] := rfl
  have lc0 : ∀ sg : Sg, sg[0]? = some (some (.loc n)) → lcF (fun st => True) (.one 2) tYesD b_law_right_0 sg [.int 0, .int 1, .int 2] st = .ok [row a b q, row c e r, row u v w] s3 := fun sg h0 => by
    have h0' : ∀ d, (sg.set 2 d)[0]? = some (some (.loc n)) := fun d => by rw [List.getElem?_set_ne (by decide)]; exact h0
    simp -implicitDefEqProofs [lcF, at_b_law_right_0, h0', e1, e2, e3]
  have lc1 : ∀ sg : Sg, sg.length = 27 → lcF (fun st => True) (.one 4) tYesD b_law_right_1 sg [row a b q, row c e r, row u v w] s3 = .ok [fr a b q, fr c e r, fr u v w] s3 := fun sg h1 => by
    have h6 : ∀ d, (sg.set 4 d)[4]? = some d := fun d => by simp [h1]
    simp -implicitDefEqProofs [lcF, at_b_law_right_1, h6, n1, n2, n3]
  have lc2 : ∀ sg : Sg, sg.length = 27 → lcF (fun st => True) (.one 6) tYesD b_law_right_2 sg [fr a b q, fr c e r, fr u v w] s3 = .ok [rowD a b q, rowD c e r, rowD u v w] s3 := fun sg h1 => by
    have h6 : ∀ d, (sg.set 6 d)[6]? = some d := fun d => by simp [h1]
    simp -implicitDefEqProofs [lcF, at_b_law_right_2, h6, f1, f2, f3]
  obtain ⟨s', el, pl⟩ := tail_ok h k z a4 b4 p3 (by omega) none none none none none none none none none none none none none none none none none none none none none none none
  refine ⟨s', ?_, pl.le (by omega)⟩
  simp -implicitDefEqProofs [F_law_right, g_law_right, lcR, r3, lc0, lc1, lc2, el]
theorem turn_ok {l : List Int} {k : Nat} {st : Sto} {a2 a3 : Option D} (hk : k < 64) : (b_law_1 [some (.scr l), some (.int k), a2, a3] st).to fun sg _ => ∃ b1 b2 b3, sg = [some (.scr l), b1, b2, b3] := by
  obtain ⟨o, e1, p1⟩ := pot_ok l k st hk
  generalize hs : st ++ [o] = s1 at *
  obtain ⟨sg', st', e, b3, rfl, hp⟩ := for_toN (ck := fun _ => True) (t := .one 3) (g := b_law_0) (l := rngD 0 2) (sg := [some (.scr l), some (.int k), some (.loc st.length), a3]) (st := s1)
    (fun i sg s => ∃ b3, sg = [some (.scr l), some (.int k), some (.loc st.length), b3] ∧ Pot s st.length (i * 60)) ⟨_, rfl, p1.le (by omega)⟩ (fun _ _ _ _ => trivial) fun i d sg s hd hi => by
      obtain ⟨b3, rfl, hp⟩ := hi
      have hi4 : i < 2 := by
        have := (List.getElem?_eq_some_iff.mp hd).1
        simpa [rngD] using this
      obtain ⟨s2, e2, p2⟩ := right_ok hp (by omega)
      refine ⟨_, rfl, ?_⟩
      rw [at_b_law_0]
      have p3 : Pot s2 st.length (((i + 1 : Nat) : Int) * 60) := p2.le (by omega)
      simp -implicitDefEqProofs [e2]
      simpa using p3
  rw [at_b_law_1]
  simp -implicitDefEqProofs [e1, e]
theorem law_true (l : List Int) (hl : l.length ≤ 63) : ∃ st, Sh.fnF Law.law_N.length Law.g_law [.scr l] [] = .ok (.bl true) st := by
  obtain ⟨m, hm, em⟩ := law_rng (l := l) (n := 12) (sg := [some (.scr l), none, none, none]) (st := []) rfl (by decide) (by decide)
  obtain ⟨sg', st', e, b1, b2, b3, rfl⟩ := for_to (ck := fun _ => True) (t := .one 1) (g := b_law_1) (l := rngD 0 m) (sg := [some (.scr l), none, none, none]) (st := [])
    (fun sg _ => ∃ b1 b2 b3, sg = [some (.scr l), b1, b2, b3]) ⟨_, _, _, rfl⟩ (fun _ _ _ => trivial) fun d sg st hd hi => by
      obtain ⟨b1, b2, b3, rfl⟩ := hi
      obtain ⟨i, hi, rfl⟩ := mem_rng hd
      refine ⟨_, rfl, ?_⟩
      have := turn_ok (l := l) (k := i) (st := st) (a2 := b2) (a3 := b3) (by omega)
      simpa using this
  refine ⟨st', ?_⟩
  simp -implicitDefEqProofs [g_law, law_N, em, e, -iRange1]
end Law
namespace Law
open PySem L2 Sh He
structure Txt (K : PySem.W.Frag) (mg : Str → Option Value) : Prop where
  n_len : mg "len" = none
  n_min : mg "min" = none
  n_max : mg "max" = none
  n_range : mg "range" = none
  n_int : mg "int" = none
  n_abs : mg "abs" = none
  d_law_pot : ∃ fd, FunD K "_law_pot" "_law_pot" (defArgs s_law_pot) (defBody s_law_pot) (defScope s_law_pot) [] [] (ga K "_law_pot") fd
  m_law_pot : mg "_law_pot" = some (.ref (ga K "_law_pot"))
  d_law_dip : ∃ fd, FunD K "_law_dip" "_law_dip" (defArgs s_law_dip) (defBody s_law_dip) (defScope s_law_dip) [] [] (ga K "_law_dip") fd
  m_law_dip : mg "_law_dip" = some (.ref (ga K "_law_dip"))
  d_law_number : ∃ fd, FunD K "_law_number" "_law_number" (defArgs s_law_number) (defBody s_law_number) (defScope s_law_number) [] [] (ga K "_law_number") fd
  m_law_number : mg "_law_number" = some (.ref (ga K "_law_number"))
  d_law_form : ∃ fd, FunD K "_law_form" "_law_form" (defArgs s_law_form) (defBody s_law_form) (defScope s_law_form) [] [] (ga K "_law_form") fd
  m_law_form : mg "_law_form" = some (.ref (ga K "_law_form"))
  n_isinstance : mg "isinstance" = none
  n_bool : mg "bool" = none
  d_is_whole : ∃ fd, FunD K "is_whole" "is_whole" (defArgs s_is_whole) (defBody s_is_whole) (defScope s_is_whole) [] [] (ga K "is_whole") fd
  m_is_whole : mg "is_whole" = some (.ref (ga K "is_whole"))
  m_NoForm : mg "NoForm" = some (.ref (ga K "NoForm"))
  x_NoForm : bExc "NoForm" K = true
  d_common_divisor : ∃ fd, FunD K "common_divisor" "common_divisor" (defArgs s_common_divisor) (defBody s_common_divisor) (defScope s_common_divisor) [] [] (ga K "common_divisor") fd
  m_common_divisor : mg "common_divisor" = some (.ref (ga K "common_divisor"))
  m_Form : mg "Form" = some (.ref (ga K "Form"))
  cl_Form : Cls K (ga K "Form")
  na_Form_row : NoAttr K (ga K "Form") "row"
  d_Form_init : ∃ fd, FunD K "__init__" "Form.__init__" (defArgs s_Form_init) (defBody s_Form_init) (defScope s_Form_init) [V.int 0, V.int 1] [] (ma K (ga K "Form") "__init__") fd
  mk_Form : Mk K (ga K "Form") (ma K (ga K "Form") "__init__")
  d_Form_parts : ∃ fd, FunD K "parts" "Form.parts" (defArgs s_Form_parts) (defBody s_Form_parts) (defScope s_Form_parts) [] [] (ma K (ga K "Form") "parts") fd
  me_Form_parts : Meth K (ga K "Form") "parts" (ma K (ga K "Form") "parts")
  ow_Form : bOwn "Form" K = true
  ki_Form_Form : PySem.W.kitOne K (.ref (ga K "Form")) (.ref (ga K "Form")) = some true
  ic_Form : InsC K (ga K "Form")
  d_Form_eq : ∃ fd, FunD K "__eq__" "Form.__eq__" (defArgs s_Form_eq) (defBody s_Form_eq) (defScope s_Form_eq) [] [] (ma K (ga K "Form") "__eq__") fd
  me_Form_eq : Meth K (ga K "Form") "__eq__" (ma K (ga K "Form") "__eq__")
  ne_Form : NeC K (ga K "Form")
  nt_Form : ∀ t ∈ eqTys, PySem.W.subIn K (.type t) (.ref (ga K "Form")) = some false
  d_law_same : ∃ fd, FunD K "_law_same" "_law_same" (defArgs s_law_same) (defBody s_law_same) (defScope s_law_same) [] [] (ga K "_law_same") fd
  d_form_of : ∃ fd, FunD K "form_of" "form_of" (defArgs s_form_of) (defBody s_form_of) (defScope s_form_of) [] [] (ga K "form_of") fd
  m_form_of : mg "form_of" = some (.ref (ga K "form_of"))
  d_parts_of : ∃ fd, FunD K "parts_of" "parts_of" (defArgs s_parts_of) (defBody s_parts_of) (defScope s_parts_of) [] [] (ga K "parts_of") fd
  m_parts_of : mg "parts_of" = some (.ref (ga K "parts_of"))
  d_Form_add : ∃ fd, FunD K "__add__" "Form.__add__" (defArgs s_Form_add) (defBody s_Form_add) (defScope s_Form_add) [] [] (ma K (ga K "Form") "__add__") fd
  me_Form_add : Meth K (ga K "Form") "__add__" (ma K (ga K "Form") "__add__")
  sf_Form : PySem.W.selfFirst K (ga K "Form") = true
  m_law_same : mg "_law_same" = some (.ref (ga K "_law_same"))
  d_Form_neg : ∃ fd, FunD K "__neg__" "Form.__neg__" (defArgs s_Form_neg) (defBody s_Form_neg) (defScope s_Form_neg) [] [] (ma K (ga K "Form") "__neg__") fd
  me_Form_neg : Meth K (ga K "Form") "__neg__" (ma K (ga K "Form") "__neg__")
  d_Form_sub : ∃ fd, FunD K "__sub__" "Form.__sub__" (defArgs s_Form_sub) (defBody s_Form_sub) (defScope s_Form_sub) [] [] (ma K (ga K "Form") "__sub__") fd
  me_Form_sub : Meth K (ga K "Form") "__sub__" (ma K (ga K "Form") "__sub__")
  on_Form_add : OpN K (ga K "Form") "add"
  on_Form_sub : OpN K (ga K "Form") "sub"
  d_Form_mul : ∃ fd, FunD K "__mul__" "Form.__mul__" (defArgs s_Form_mul) (defBody s_Form_mul) (defScope s_Form_mul) [] [] (ma K (ga K "Form") "__mul__") fd
  me_Form_mul : Meth K (ga K "Form") "__mul__" (ma K (ga K "Form") "__mul__")
  on_Form_mul : OpN K (ga K "Form") "mul"
  d_Form_call : ∃ fd, FunD K "__call__" "Form.__call__" (defArgs s_Form_call) (defBody s_Form_call) (defScope s_Form_call) [] [] (ma K (ga K "Form") "__call__") fd
  co_Form : StX.CallO K (ga K "Form") (ma K (ga K "Form") "__call__")
  d_law_right : ∃ fd, FunD K "_law_right" "_law_right" (defArgs s_law_right) (defBody s_law_right) (defScope s_law_right) [] [] (ga K "_law_right") fd
  m_law_right : mg "_law_right" = some (.ref (ga K "_law_right"))
  d_law : ∃ fd, FunD K "law" "law" (defArgs s_law) (defBody s_law) (defScope s_law) [] [] (ga K "law") fd
  m_law : mg "law" = some (.ref (ga K "law"))
section
variable {P : Program} {w : World} {K : PySem.W.Frag} {mg : Str → Option Value} {base : Heap}
theorem sc_law_pot : FnScope ["_law_script", "_law_k", "_law_cell"] ["_law_script", "_law_k"] (defScope s_law_pot) := ⟨rfl, rfl, rfl, by decide +kernel, rfl, by decide +kernel, by decide +kernel⟩
theorem ok_law_pot (T : Txt K mg) : DefOk P w K mg base 1 (ga K "_law_pot") ["_law_script", "_law_k"] [] F_law_pot := by
  refine def_ok (N := ["_law_script", "_law_k", "_law_cell"]) (k := 0) (g := g_law_pot) T.d_law_pot sc_law_pot (fun _ _ _ _ _ _ us hl => match us, hl with | [_, _], _ => rfl) ?_
  intro cdv A outer s H E hr
  exact (ss_cons (ss_set (i := 2) sc_law_pot.nd rfl (by first | exact Or.inl rfl | exact Or.inr rfl) se_int) (ss_cons (ss_if (sb_cmp op_lt fits_cmpI (se_var (pv 1)) (se_callB call_lenA fits_len (by rfl) T.n_len (by decide +kernel) (sa_cons (se_var (pv 0)) sa_nil)) (nomark _)) (ss_one (ss_set (i := 2) sc_law_pot.nd rfl (by first | exact Or.inl rfl | exact Or.inr rfl) (se_callB call_abs fits_abs (by rfl) T.n_abs (by decide +kernel) (sa_cons (se_callTy call_int1 fits_int (by rfl) T.n_int (by decide +kernel) (sa_cons (se_ix (se_var (pv 0)) (se_var (pv 1)) (fun _ _ => rfl)) sa_nil)) sa_nil)))) ss_nil) (ss_one (ss_ret (se_new (sa_cons (se_callB (call_max2 rfl) fits_max (by rfl) T.n_max (by decide +kernel) (sa_cons se_int (sa_cons (se_bin op_sub fits_sub (se_var (pv 2)) (se_bin op_powW fits_pow se_int se_int)) sa_nil))) (sa_cons (se_bin op_addA fits_add (se_bin op_modN fits_mod (se_callTy call_int1 fits_int (by rfl) T.n_int (by decide +kernel) (sa_cons (se_var (pv 2)) sa_nil)) (se_bin op_addA fits_add (se_bin op_powW fits_pow se_int se_int) se_int)) (se_bin op_mulW fits_mul se_int (se_var (pv 1)))) (sa_cons se_int sa_nil))))))))
theorem sc_law_dip : FnScope ["_law_pot_here", "_law_many", "_law_found", "_law_mixed"] ["_law_pot_here", "_law_many"] (defScope s_law_dip) := ⟨rfl, rfl, rfl, by decide +kernel, rfl, by decide +kernel, by decide +kernel⟩
theorem ok_law_dip (T : Txt K mg) : DefOk P w K mg base 1 (ga K "_law_dip") ["_law_pot_here", "_law_many"] [] F_law_dip := by
  refine def_ok (N := ["_law_pot_here", "_law_many", "_law_found", "_law_mixed"]) (k := 0) (g := g_law_dip) T.d_law_dip sc_law_dip (fun _ _ _ _ _ _ us hl => match us, hl with | [_, _], _ => rfl) ?_
  intro cdv A outer s H E hr
  exact (ss_cons (ss_if (sb_cmp op_gt fits_cmpI (se_ix (se_var (pv 0)) se_int (fun _ _ => rfl)) se_int (nomark _)) (ss_cons (ss_set (i := 2) sc_law_dip.nd rfl (by first | exact Or.inl rfl | exact Or.inr rfl) (se_bin op_modN fits_mod (se_callTy call_int1 fits_int (by rfl) T.n_int (by decide +kernel) (sa_cons (se_ix (se_var (pv 0)) se_int (fun _ _ => rfl)) sa_nil)) (se_var (pv 1)))) (ss_cons (ss_sub (se_var (pv 0)) se_int (se_bin op_fdivA fits_div (se_ix (se_var (pv 0)) se_int (fun _ _ => rfl)) (se_var (pv 1)))) (ss_one (ss_ret (se_var (pv 2)))))) ss_nil) (ss_cons (ss_sub (se_var (pv 0)) se_int (se_bin op_addA fits_add (se_ix (se_var (pv 0)) se_int (fun _ _ => rfl)) se_int)) (ss_cons (ss_set (i := 3) sc_law_dip.nd rfl (by first | exact Or.inl rfl | exact Or.inr rfl) (se_bin op_modN fits_mod (se_callTy call_int1 fits_int (by rfl) T.n_int (by decide +kernel) (sa_cons (se_bin op_powW fits_pow (se_bin op_addA fits_add (se_ix (se_var (pv 0)) se_int (fun _ _ => rfl)) (se_bin op_mulW fits_mul se_int (se_ix (se_var (pv 0)) se_int (fun _ _ => rfl)))) se_int) sa_nil)) (se_bin op_addA fits_add (se_bin op_powW fits_pow se_int se_int) se_int))) (ss_cons (ss_set (i := 3) sc_law_dip.nd rfl (by first | exact Or.inl rfl | exact Or.inr rfl) (se_bin op_modN fits_mod (se_callTy call_int1 fits_int (by rfl) T.n_int (by decide +kernel) (sa_cons (se_bin op_powW fits_pow (se_bin op_addA fits_add (se_var (pv 3)) (se_bin op_mulW fits_mul se_int (se_ix (se_var (pv 0)) se_int (fun _ _ => rfl)))) se_int) sa_nil)) (se_bin op_addA fits_add (se_bin op_powW fits_pow se_int se_int) se_int))) (ss_one (ss_ret (se_bin op_modN fits_mod (se_callTy call_int1 fits_int (by rfl) T.n_int (by decide +kernel) (sa_cons (se_bin op_fdivA fits_div (se_var (pv 3)) (se_bin op_powW fits_pow se_int se_int)) sa_nil)) (se_var (pv 1)))))))))
theorem sc_law_number : FnScope ["_law_pot_here", "_law_size"] ["_law_pot_here"] (defScope s_law_number) := ⟨rfl, rfl, rfl, by decide +kernel, rfl, by decide +kernel, by decide +kernel⟩
theorem ok_law_number (T : Txt K mg) : DefOk P w K mg base 2 (ga K "_law_number") ["_law_pot_here"] [] F_law_number := by
  refine def_ok (N := ["_law_pot_here", "_law_size"]) (k := 1) (g := g_law_number) T.d_law_number sc_law_number (fun _ _ _ _ _ _ us hl => match us, hl with | [_], _ => rfl) ?_
  intro cdv A outer s H E hr
  exact (ss_cons (ss_set (i := 1) sc_law_number.nd rfl (by first | exact Or.inl rfl | exact Or.inr rfl) (se_ix (se_lst (sa_cons (se_callD (ok_law_dip T) 0 (by decide) (fun _ _ => .nil) (hr.mono (by decide)) (takes_of rfl rfl rfl rfl) (by rfl) T.m_law_dip (sa_cons (se_var (pv 0)) (sa_cons se_int sa_nil))) (sa_cons (se_callD (ok_law_dip T) 0 (by decide) (fun _ _ => .nil) (hr.mono (by decide)) (takes_of rfl rfl rfl rfl) (by rfl) T.m_law_dip (sa_cons (se_var (pv 0)) (sa_cons se_int sa_nil))) (sa_cons (se_callD (ok_law_dip T) 0 (by decide) (fun _ _ => .nil) (hr.mono (by decide)) (takes_of rfl rfl rfl rfl) (by rfl) T.m_law_dip (sa_cons (se_var (pv 0)) (sa_cons (se_bin op_powW fits_pow se_int se_int) sa_nil))) sa_nil)))) (se_callD (ok_law_dip T) 0 (by decide) (fun _ _ => .nil) (hr.mono (by decide)) (takes_of rfl rfl rfl rfl) (by rfl) T.m_law_dip (sa_cons (se_var (pv 0)) (sa_cons se_int sa_nil))) (fun _ _ => rfl))) (ss_one (ss_ret (se_ix (se_lst (sa_cons (se_var (pv 1)) (sa_cons (se_un un_neg fits_neg (se_var (pv 1))) sa_nil))) (se_callD (ok_law_dip T) 0 (by decide) (fun _ _ => .nil) (hr.mono (by decide)) (takes_of rfl rfl rfl rfl) (by rfl) T.m_law_dip (sa_cons (se_var (pv 0)) (sa_cons se_int sa_nil))) (fun _ _ => rfl)))))
theorem sc_law_form : FnScope ["_law_pot_here", "_law_number_here", "_law_more"] ["_law_pot_here"] (defScope s_law_form) := ⟨rfl, rfl, rfl, by decide +kernel, rfl, by decide +kernel, by decide +kernel⟩
theorem ok_law_form (T : Txt K mg) : DefOk P w K mg base 3 (ga K "_law_form") ["_law_pot_here"] [] F_law_form := by
  refine def_ok (N := ["_law_pot_here", "_law_number_here", "_law_more"]) (k := 2) (g := g_law_form) T.d_law_form sc_law_form (fun _ _ _ _ _ _ us hl => match us, hl with | [_], _ => rfl) ?_
  intro cdv A outer s H E hr
  exact (ss_cons (ss_par (i := 1) (j := 2) rfl sc_law_form.nd rfl rfl (by decide) rfl rfl (sa_cons (se_callD (ok_law_number T) 0 (by decide) (fun _ _ => .nil) (hr.mono (by decide)) (takes_of rfl rfl rfl rfl) (by rfl) T.m_law_number (sa_cons (se_var (pv 0)) sa_nil)) (sa_cons (se_callD (ok_law_number T) 0 (by decide) (fun _ _ => .nil) (hr.mono (by decide)) (takes_of rfl rfl rfl rfl) (by rfl) T.m_law_number (sa_cons (se_var (pv 0)) sa_nil)) sa_nil)) (by rfl)) (ss_one (ss_ret (se_tup (sa_cons (se_var (pv 1)) (sa_cons (se_bin op_mulW fits_mul (se_var (pv 2)) (se_callTy call_int1 fits_int (by rfl) T.n_int (by decide +kernel) (sa_cons (se_cmp op_gt fits_cmpI (se_callD (ok_law_dip T) 0 (by decide) (fun _ _ => .nil) (hr.mono (by decide)) (takes_of rfl rfl rfl rfl) (by rfl) T.m_law_dip (sa_cons (se_var (pv 0)) (sa_cons se_int sa_nil))) se_int (nomark _)) sa_nil))) (sa_cons (se_bin op_addA fits_add se_int (se_callD (ok_law_dip T) 0 (by decide) (fun _ _ => .nil) (hr.mono (by decide)) (takes_of rfl rfl rfl rfl) (by rfl) T.m_law_dip (sa_cons (se_var (pv 0)) (sa_cons (se_ix (se_lst (sa_cons se_int (sa_cons se_int (sa_cons se_int sa_nil)))) (se_callD (ok_law_dip T) 0 (by decide) (fun _ _ => .nil) (hr.mono (by decide)) (takes_of rfl rfl rfl rfl) (by rfl) T.m_law_dip (sa_cons (se_var (pv 0)) (sa_cons se_int sa_nil))) (fun _ _ => rfl)) sa_nil)))) sa_nil)))))))
theorem sc_is_whole : FnScope ["thing"] ["thing"] (defScope s_is_whole) := ⟨rfl, rfl, rfl, by decide +kernel, rfl, by decide +kernel, by decide +kernel⟩
theorem ok_is_whole (T : Txt K mg) : DefOk P w K mg base 1 (ga K "is_whole") ["thing"] [] F_is_whole := by
  refine def_ok (N := ["thing"]) (k := 0) (g := g_is_whole) T.d_is_whole sc_is_whole (fun _ _ _ _ _ _ us hl => match us, hl with | [_], _ => rfl) ?_
  intro cdv A outer s H E hr
  exact (ss_one (ss_ret (se_and (se_isi (by rfl) T.n_isinstance (se_var (pv 0)) (pe_bltn (v := .ty "int") (by rfl) T.n_int (by decide +kernel) rfl) (.ty _) tInt_ok trivial) (se_one (se_not (se_isi (by rfl) T.n_isinstance (se_var (pv 0)) (pe_bltn (v := .ty "bool") (by rfl) T.n_bool (by decide +kernel) rfl) (.ty _) tBool_ok trivial))))))
theorem sc_common_divisor : FnScope ["one", "other"] ["one", "other"] (defScope s_common_divisor) := ⟨rfl, rfl, rfl, by decide +kernel, rfl, by decide +kernel, by decide +kernel⟩
theorem ok_common_divisor (T : Txt K mg) : DefOk P w K mg base 1 (ga K "common_divisor") ["one", "other"] [] F_common_divisor := by
  refine def_ok (N := ["one", "other"]) (k := 0) (g := g_common_divisor) T.d_common_divisor sc_common_divisor (fun _ _ _ _ _ _ us hl => match us, hl with | [_, _], _ => rfl) ?_
  intro cdv A outer s H E hr
  exact (ss_cons (ss_par (i := 0) (j := 1) rfl sc_common_divisor.nd rfl rfl (by decide) rfl rfl (sa_cons (se_callB call_abs fits_abs (by rfl) T.n_abs (by decide +kernel) (sa_cons (se_var (pv 0)) sa_nil)) (sa_cons (se_callB call_abs fits_abs (by rfl) T.n_abs (by decide +kernel) (sa_cons (se_var (pv 1)) sa_nil)) sa_nil)) (by rfl)) (ss_cons (ss_while (passes_of rfl) (sb_cmp (op_neD hr.units) fits_ne (se_var (pv 1)) se_int (nomark _)) (ss_one (ss_par (i := 0) (j := 1) rfl sc_common_divisor.nd rfl rfl (by decide) rfl rfl (sa_cons (se_var (pv 1)) (sa_cons (se_bin op_modN fits_mod (se_var (pv 0)) (se_var (pv 1))) sa_nil)) (by rfl)))) (ss_one (ss_ret (se_var (pv 0))))))
theorem sc_Form_init : FnScope ["self", "a", "b", "q", "common"] ["self", "a", "b", "q"] (defScope s_Form_init) := ⟨rfl, rfl, rfl, by decide +kernel, rfl, by decide +kernel, by decide +kernel⟩
theorem ok_Form_init (T : Txt K mg) : DefOk P w K mg base 2 (ma K (ga K "Form") "__init__") ["self", "a", "b", "q"] [V.int 0, V.int 1] F_Form_init := by
  refine def_okD (N := ["self", "a", "b", "q", "common"]) (k := 1) (g := g_Form_init) T.d_Form_init sc_Form_init (by simp) (by decide) (fun j hj => ?_) ?_
  · match j, hj with
    | 0, _ => exact fun _ _ _ _ _ _ _ us its h1 h2 => match us, its, h1, h2 with | [_, _], [_, _], _, _ => ⟨_, rfl, rfl⟩
    | 1, _ => exact fun _ _ _ _ _ _ _ us its h1 h2 => match us, its, h1, h2 with | [_, _, _], [_, _], _, _ => ⟨_, rfl, rfl⟩
    | 2, _ => exact fun _ _ _ _ _ _ _ us its h1 h2 => match us, its, h1, h2 with | [_, _, _, _], [_, _], _, _ => ⟨_, rfl, rfl⟩
    | _ + 3, h => exact absurd h (by simp)
  intro cdv A outer s H E hr
  exact (ss_cons (ss_if (sb_w (sw_or (sb_not (sb_tru (se_callD (ok_is_whole T) 0 (by decide) (fun _ _ => .nil) (hr.mono (by decide)) (takes_of rfl rfl rfl rfl) (by rfl) T.m_is_whole (sa_cons (se_var (pv 1)) sa_nil)) (fun _ => rfl))) (sw_or (sb_not (sb_tru (se_callD (ok_is_whole T) 0 (by decide) (fun _ _ => .nil) (hr.mono (by decide)) (takes_of rfl rfl rfl rfl) (by rfl) T.m_is_whole (sa_cons (se_var (pv 2)) sa_nil)) (fun _ => rfl))) (sw_or (sb_not (sb_tru (se_callD (ok_is_whole T) 0 (by decide) (fun _ _ => .nil) (hr.mono (by decide)) (takes_of rfl rfl rfl rfl) (by rfl) T.m_is_whole (sa_cons (se_var (pv 3)) sa_nil)) (fun _ => rfl))) (sw_or1 (sb_cmp op_lt fits_cmpI (se_var (pv 3)) se_int (nomark _))))))) (ss_one (ss_raise (ci := 1) (xown_ok rfl T.m_NoForm T.x_NoForm) rfl rfl (takes_of rfl rfl rfl rfl) (by rfl))) ss_nil) (ss_cons (ss_set (i := 4) sc_Form_init.nd rfl (by first | exact Or.inl rfl | exact Or.inr rfl) (se_callD (ok_common_divisor T) 0 (by decide) (fun _ _ => .nil) (hr.mono (by decide)) (takes_of rfl rfl rfl rfl) (by rfl) T.m_common_divisor (sa_cons (se_callD (ok_common_divisor T) 0 (by decide) (fun _ _ => .nil) (hr.mono (by decide)) (takes_of rfl rfl rfl rfl) (by rfl) T.m_common_divisor (sa_cons (se_var (pv 1)) (sa_cons (se_var (pv 2)) sa_nil))) (sa_cons (se_var (pv 3)) sa_nil)))) (ss_one (ss_fld (ci := 0) (i := 0) (by exact T.m_Form) T.cl_Form T.na_Form_row rfl (by decide +kernel) (by decide) (se_var (pv 0)) (se_tup (sa_cons (se_bin op_fdivA fits_div (se_var (pv 1)) (se_var (pv 4))) (sa_cons (se_bin op_fdivA fits_div (se_var (pv 2)) (se_var (pv 4))) (sa_cons (se_bin op_fdivA fits_div (se_var (pv 3)) (se_var (pv 4))) sa_nil))))))))
theorem sc_Form_parts : FnScope ["self"] ["self"] (defScope s_Form_parts) := ⟨rfl, rfl, rfl, by decide +kernel, rfl, by decide +kernel, by decide +kernel⟩
theorem ok_Form_parts (T : Txt K mg) : DefOk P w K mg base 1 (ma K (ga K "Form") "parts") ["self"] [] F_Form_parts := by
  refine def_ok (N := ["self"]) (k := 0) (g := g_Form_parts) T.d_Form_parts sc_Form_parts (fun _ _ _ _ _ _ us hl => match us, hl with | [_], _ => rfl) ?_
  intro cdv A outer s H E hr
  exact (ss_one (ss_ret (se_fld (c := 0) (i := 0) (by exact T.m_Form) T.cl_Form T.na_Form_row rfl (by decide +kernel) (se_var (pv 0)))))
theorem sc_Form_eq : FnScope ["self", "other"] ["self", "other"] (defScope s_Form_eq) := ⟨rfl, rfl, rfl, by decide +kernel, rfl, by decide +kernel, by decide +kernel⟩
theorem ok_Form_eq (T : Txt K mg) : DefOk P w K mg base 1 (ma K (ga K "Form") "__eq__") ["self", "other"] [] F_Form_eq := by
  refine def_ok (N := ["self", "other"]) (k := 0) (g := g_Form_eq) T.d_Form_eq sc_Form_eq (fun _ _ _ _ _ _ us hl => match us, hl with | [_, _], _ => rfl) ?_
  intro cdv A outer s H E hr
  exact (ss_one (ss_ret (se_and (se_isi (by rfl) T.n_isinstance (se_var (pv 1)) (pe_glob (v := .ref (ga K "Form")) (by rfl) T.m_Form rfl) (.own _) (tOwn_ok T.ow_Form) ⟨⟨_, T.m_Form, T.ic_Form, T.ki_Form_Form⟩, trivial⟩) (se_one (se_cmp (op_eqD hr.units) fits_eq (se_fld (c := 0) (i := 0) (by exact T.m_Form) T.cl_Form T.na_Form_row rfl (by decide +kernel) (se_var (pv 0))) (se_fld (c := 0) (i := 0) (by exact T.m_Form) T.cl_Form T.na_Form_row rfl (by decide +kernel) (se_var (pv 1))) (nomark _))))))
theorem sc_law_same : FnScope ["_law_form_here", "_law_a", "_law_b", "_law_q", "_law_c", "_law_e", "_law_r"] ["_law_form_here", "_law_a", "_law_b", "_law_q"] (defScope s_law_same) := ⟨rfl, rfl, rfl, by decide +kernel, rfl, by decide +kernel, by decide +kernel⟩
theorem ok_law_same (T : Txt K mg) : DefOk P w K mg base 4 (ga K "_law_same") ["_law_form_here", "_law_a", "_law_b", "_law_q"] [] F_law_same := by
  refine def_ok (N := ["_law_form_here", "_law_a", "_law_b", "_law_q", "_law_c", "_law_e", "_law_r"]) (k := 3) (g := g_law_same) T.d_law_same sc_law_same (fun _ _ _ _ _ _ us hl => match us, hl with | [_, _, _, _], _ => rfl) ?_
  intro cdv A outer s H E hr
  exact (ss_cons (ss_asg (t := (.many [4, 5, 6])) (pg_tup (by rfl) (pgs_cons (pg_name (i := 4) sc_law_same.nd rfl (by first | exact Or.inl rfl | exact Or.inr rfl)) (pgs_cons (pg_name (i := 5) sc_law_same.nd rfl (by first | exact Or.inl rfl | exact Or.inr rfl)) (pgs_cons (pg_name (i := 6) sc_law_same.nd rfl (by first | exact Or.inl rfl | exact Or.inr rfl)) pgs_nil)))) (se_meth0D (c := 0) (ok_Form_parts T) 0 (by decide) (fun _ _ => .nil) (hr.mono (by decide)) (takes_of rfl rfl rfl rfl) (by exact T.m_Form) T.cl_Form T.me_Form_parts (by decide +kernel) (se_var (pv 0)))) (ss_cons (ss_if (sb_w (sw_or (sb_not (sb_tru (se_isi (by rfl) T.n_isinstance (se_var (pv 0)) (pe_glob (v := .ref (ga K "Form")) (by rfl) T.m_Form rfl) (.own _) (tOwn_ok T.ow_Form) ⟨⟨_, T.m_Form, T.ic_Form, T.ki_Form_Form⟩, trivial⟩) (fun _ => rfl))) (sw_or1 (sb_cmpS (BinS.ownNe (c := 0) (ok_Form_eq T) (hr.mono (by decide)) (takes_of rfl rfl rfl rfl) (by exact T.m_Form) T.me_Form_eq T.ne_Form T.nt_Form dBad_ok) (se_var (pv 0)) (se_makeD (ci := 0) (ok_Form_init T) 2 (by decide) (fun _ _ => .nil) (hr.mono (by decide)) (takes_of rfl rfl rfl rfl) (by exact T.m_Form) T.mk_Form (by rfl) T.m_Form (sa_cons (se_var (pv 1)) (sa_cons (se_var (pv 2)) (sa_cons (se_var (pv 3)) sa_nil)))) (nomark _))))) (ss_one (ss_ret se_bl)) ss_nil) (ss_one (ss_ret (se_and (se_cmp op_gt fits_cmpI (se_var (pv 6)) se_int (nomark _)) (se_and (se_cmp (op_eqD hr.units) fits_eq (se_bin op_mulW fits_mul (se_var (pv 4)) (se_var (pv 3))) (se_bin op_mulW fits_mul (se_var (pv 1)) (se_var (pv 6))) (nomark _)) (se_one (se_cmp (op_eqD hr.units) fits_eq (se_bin op_mulW fits_mul (se_var (pv 5)) (se_var (pv 3))) (se_bin op_mulW fits_mul (se_var (pv 2)) (se_var (pv 6))) (nomark _)))))))))
theorem sc_form_of : FnScope ["thing"] ["thing"] (defScope s_form_of) := ⟨rfl, rfl, rfl, by decide +kernel, rfl, by decide +kernel, by decide +kernel⟩
theorem ok_form_of (T : Txt K mg) : DefOk P w K mg base 4 (ga K "form_of") ["thing"] [] F_form_of := by
  refine def_ok (N := ["thing"]) (k := 3) (g := g_form_of) T.d_form_of sc_form_of (fun _ _ _ _ _ _ us hl => match us, hl with | [_], _ => rfl) ?_
  intro cdv A outer s H E hr
  exact (ss_one (ss_ret (se_if (sb_tru (se_isi (by rfl) T.n_isinstance (se_var (pv 0)) (pe_glob (v := .ref (ga K "Form")) (by rfl) T.m_Form rfl) (.own _) (tOwn_ok T.ow_Form) ⟨⟨_, T.m_Form, T.ic_Form, T.ki_Form_Form⟩, trivial⟩) (fun _ => rfl)) (se_var (pv 0)) (se_makeD (ci := 0) (ok_Form_init T) 0 (by decide) (fun _ _ => .cons (.int _) (.cons (.int _) (.nil))) (hr.mono (by decide)) (takes_of rfl rfl rfl rfl) (by exact T.m_Form) T.mk_Form (by rfl) T.m_Form (sa_cons (se_var (pv 0)) sa_nil)))))
theorem sc_parts_of : FnScope ["thing"] ["thing"] (defScope s_parts_of) := ⟨rfl, rfl, rfl, by decide +kernel, rfl, by decide +kernel, by decide +kernel⟩
theorem ok_parts_of (T : Txt K mg) : DefOk P w K mg base 5 (ga K "parts_of") ["thing"] [] F_parts_of := by
  refine def_ok (N := ["thing"]) (k := 4) (g := g_parts_of) T.d_parts_of sc_parts_of (fun _ _ _ _ _ _ us hl => match us, hl with | [_], _ => rfl) ?_
  intro cdv A outer s H E hr
  exact (ss_one (ss_ret (se_meth0D (c := 0) (ok_Form_parts T) 0 (by decide) (fun _ _ => .nil) (hr.mono (by decide)) (takes_of rfl rfl rfl rfl) (by exact T.m_Form) T.cl_Form T.me_Form_parts (by decide +kernel) (se_callD (ok_form_of T) 0 (by decide) (fun _ _ => .nil) (hr.mono (by decide)) (takes_of rfl rfl rfl rfl) (by rfl) T.m_form_of (sa_cons (se_var (pv 0)) sa_nil)))))
theorem sc_Form_add : FnScope ["self", "other", "a", "b", "q", "c", "e", "r"] ["self", "other"] (defScope s_Form_add) := ⟨rfl, rfl, rfl, by decide +kernel, rfl, by decide +kernel, by decide +kernel⟩
theorem ok_Form_add (T : Txt K mg) : DefOk P w K mg base 6 (ma K (ga K "Form") "__add__") ["self", "other"] [] F_Form_add := by
  refine def_ok (N := ["self", "other", "a", "b", "q", "c", "e", "r"]) (k := 5) (g := g_Form_add) T.d_Form_add sc_Form_add (fun _ _ _ _ _ _ us hl => match us, hl with | [_, _], _ => rfl) ?_
  intro cdv A outer s H E hr
  exact (ss_cons (ss_asg (t := (.many [2, 3, 4])) (pg_tup (by rfl) (pgs_cons (pg_name (i := 2) sc_Form_add.nd rfl (by first | exact Or.inl rfl | exact Or.inr rfl)) (pgs_cons (pg_name (i := 3) sc_Form_add.nd rfl (by first | exact Or.inl rfl | exact Or.inr rfl)) (pgs_cons (pg_name (i := 4) sc_Form_add.nd rfl (by first | exact Or.inl rfl | exact Or.inr rfl)) pgs_nil)))) (se_fld (c := 0) (i := 0) (by exact T.m_Form) T.cl_Form T.na_Form_row rfl (by decide +kernel) (se_var (pv 0)))) (ss_cons (ss_asg (t := (.many [5, 6, 7])) (pg_tup (by rfl) (pgs_cons (pg_name (i := 5) sc_Form_add.nd rfl (by first | exact Or.inl rfl | exact Or.inr rfl)) (pgs_cons (pg_name (i := 6) sc_Form_add.nd rfl (by first | exact Or.inl rfl | exact Or.inr rfl)) (pgs_cons (pg_name (i := 7) sc_Form_add.nd rfl (by first | exact Or.inl rfl | exact Or.inr rfl)) pgs_nil)))) (se_callD (ok_parts_of T) 0 (by decide) (fun _ _ => .nil) (hr.mono (by decide)) (takes_of rfl rfl rfl rfl) (by rfl) T.m_parts_of (sa_cons (se_var (pv 1)) sa_nil))) (ss_one (ss_ret (se_makeD (ci := 0) (ok_Form_init T) 2 (by decide) (fun _ _ => .nil) (hr.mono (by decide)) (takes_of rfl rfl rfl rfl) (by exact T.m_Form) T.mk_Form (by rfl) T.m_Form (sa_cons (se_bin op_addA fits_add (se_bin op_mulW fits_mul (se_var (pv 2)) (se_var (pv 7))) (se_bin op_mulW fits_mul (se_var (pv 5)) (se_var (pv 4)))) (sa_cons (se_bin op_addA fits_add (se_bin op_mulW fits_mul (se_var (pv 3)) (se_var (pv 7))) (se_bin op_mulW fits_mul (se_var (pv 6)) (se_var (pv 4)))) (sa_cons (se_bin op_mulW fits_mul (se_var (pv 4)) (se_var (pv 7))) sa_nil))))))))
theorem sc_Form_neg : FnScope ["self", "a", "b", "q"] ["self"] (defScope s_Form_neg) := ⟨rfl, rfl, rfl, by decide +kernel, rfl, by decide +kernel, by decide +kernel⟩
theorem ok_Form_neg (T : Txt K mg) : DefOk P w K mg base 4 (ma K (ga K "Form") "__neg__") ["self"] [] F_Form_neg := by
  refine def_ok (N := ["self", "a", "b", "q"]) (k := 3) (g := g_Form_neg) T.d_Form_neg sc_Form_neg (fun _ _ _ _ _ _ us hl => match us, hl with | [_], _ => rfl) ?_
  intro cdv A outer s H E hr
  exact (ss_cons (ss_asg (t := (.many [1, 2, 3])) (pg_tup (by rfl) (pgs_cons (pg_name (i := 1) sc_Form_neg.nd rfl (by first | exact Or.inl rfl | exact Or.inr rfl)) (pgs_cons (pg_name (i := 2) sc_Form_neg.nd rfl (by first | exact Or.inl rfl | exact Or.inr rfl)) (pgs_cons (pg_name (i := 3) sc_Form_neg.nd rfl (by first | exact Or.inl rfl | exact Or.inr rfl)) pgs_nil)))) (se_fld (c := 0) (i := 0) (by exact T.m_Form) T.cl_Form T.na_Form_row rfl (by decide +kernel) (se_var (pv 0)))) (ss_one (ss_ret (se_makeD (ci := 0) (ok_Form_init T) 2 (by decide) (fun _ _ => .nil) (hr.mono (by decide)) (takes_of rfl rfl rfl rfl) (by exact T.m_Form) T.mk_Form (by rfl) T.m_Form (sa_cons (se_un un_neg fits_neg (se_var (pv 1))) (sa_cons (se_un un_neg fits_neg (se_var (pv 2))) (sa_cons (se_var (pv 3)) sa_nil)))))))
theorem sc_Form_sub : FnScope ["self", "other"] ["self", "other"] (defScope s_Form_sub) := ⟨rfl, rfl, rfl, by decide +kernel, rfl, by decide +kernel, by decide +kernel⟩
theorem ok_Form_sub (T : Txt K mg) : DefOk P w K mg base 7 (ma K (ga K "Form") "__sub__") ["self", "other"] [] F_Form_sub := by
  refine def_ok (N := ["self", "other"]) (k := 6) (g := g_Form_sub) T.d_Form_sub sc_Form_sub (fun _ _ _ _ _ _ us hl => match us, hl with | [_, _], _ => rfl) ?_
  intro cdv A outer s H E hr
  exact (ss_one (ss_ret (se_binS (BinS.ownI (c := 0) (ok_Form_add T) (hr.mono (by decide)) (takes_of rfl rfl rfl rfl) (by exact T.m_Form) T.me_Form_add T.sf_Form dBad_ok) (se_var (pv 0)) (se_unS (UnS.neg (c := 0) (ok_Form_neg T) (hr.mono (by decide)) (takes_of rfl rfl rfl rfl) (by exact T.m_Form) T.me_Form_neg uBad_ok) (se_callD (ok_form_of T) 0 (by decide) (fun _ _ => .nil) (hr.mono (by decide)) (takes_of rfl rfl rfl rfl) (by rfl) T.m_form_of (sa_cons (se_var (pv 1)) sa_nil))))))
theorem sc_Form_mul : FnScope ["self", "number", "a", "b", "q"] ["self", "number"] (defScope s_Form_mul) := ⟨rfl, rfl, rfl, by decide +kernel, rfl, by decide +kernel, by decide +kernel⟩
theorem ok_Form_mul (T : Txt K mg) : DefOk P w K mg base 4 (ma K (ga K "Form") "__mul__") ["self", "number"] [] F_Form_mul := by
  refine def_ok (N := ["self", "number", "a", "b", "q"]) (k := 3) (g := g_Form_mul) T.d_Form_mul sc_Form_mul (fun _ _ _ _ _ _ us hl => match us, hl with | [_, _], _ => rfl) ?_
  intro cdv A outer s H E hr
  exact (ss_cons (ss_asg (t := (.many [2, 3, 4])) (pg_tup (by rfl) (pgs_cons (pg_name (i := 2) sc_Form_mul.nd rfl (by first | exact Or.inl rfl | exact Or.inr rfl)) (pgs_cons (pg_name (i := 3) sc_Form_mul.nd rfl (by first | exact Or.inl rfl | exact Or.inr rfl)) (pgs_cons (pg_name (i := 4) sc_Form_mul.nd rfl (by first | exact Or.inl rfl | exact Or.inr rfl)) pgs_nil)))) (se_fld (c := 0) (i := 0) (by exact T.m_Form) T.cl_Form T.na_Form_row rfl (by decide +kernel) (se_var (pv 0)))) (ss_one (ss_ret (se_makeD (ci := 0) (ok_Form_init T) 2 (by decide) (fun _ _ => .nil) (hr.mono (by decide)) (takes_of rfl rfl rfl rfl) (by exact T.m_Form) T.mk_Form (by rfl) T.m_Form (sa_cons (se_bin op_mulW fits_mul (se_var (pv 2)) (se_var (pv 1))) (sa_cons (se_bin op_mulW fits_mul (se_var (pv 3)) (se_var (pv 1))) (sa_cons (se_var (pv 4)) sa_nil)))))))
theorem sc_Form_call : FnScope ["self", "distance", "a", "b", "q"] ["self", "distance"] (defScope s_Form_call) := ⟨rfl, rfl, rfl, by decide +kernel, rfl, by decide +kernel, by decide +kernel⟩
theorem ok_Form_call (T : Txt K mg) : DefOk P w K mg base 2 (ma K (ga K "Form") "__call__") ["self", "distance"] [] F_Form_call := by
  refine def_ok (N := ["self", "distance", "a", "b", "q"]) (k := 1) (g := g_Form_call) T.d_Form_call sc_Form_call (fun _ _ _ _ _ _ us hl => match us, hl with | [_, _], _ => rfl) ?_
  intro cdv A outer s H E hr
  exact (ss_cons (ss_if (sb_w (sw_or (sb_not (sb_tru (se_callD (ok_is_whole T) 0 (by decide) (fun _ _ => .nil) (hr.mono (by decide)) (takes_of rfl rfl rfl rfl) (by rfl) T.m_is_whole (sa_cons (se_var (pv 1)) sa_nil)) (fun _ => rfl))) (sw_or1 (sb_cmp op_lt fits_cmpI (se_var (pv 1)) se_int (nomark _))))) (ss_one ss_never) ss_nil) (ss_cons (ss_asg (t := (.many [2, 3, 4])) (pg_tup (by rfl) (pgs_cons (pg_name (i := 2) sc_Form_call.nd rfl (by first | exact Or.inl rfl | exact Or.inr rfl)) (pgs_cons (pg_name (i := 3) sc_Form_call.nd rfl (by first | exact Or.inl rfl | exact Or.inr rfl)) (pgs_cons (pg_name (i := 4) sc_Form_call.nd rfl (by first | exact Or.inl rfl | exact Or.inr rfl)) pgs_nil)))) (se_fld (c := 0) (i := 0) (by exact T.m_Form) T.cl_Form T.na_Form_row rfl (by decide +kernel) (se_var (pv 0)))) (ss_cons (ss_if (sb_cmp (op_neD hr.units) fits_ne (se_bin op_modN fits_mod (se_bin op_addA fits_add (se_var (pv 2)) (se_bin op_mulW fits_mul (se_var (pv 3)) (se_var (pv 1)))) (se_var (pv 4))) se_int (nomark _)) (ss_one ss_never) ss_nil) (ss_one (ss_ret (se_bin op_fdivA fits_div (se_bin op_addA fits_add (se_var (pv 2)) (se_bin op_mulW fits_mul (se_var (pv 3)) (se_var (pv 1)))) (se_var (pv 4))))))))
theorem sc_law_right : FnScope ["_law_pot_here", "_law_rows", "_law_k", "_law_forms", "_law_row", "_law_kept", "_law_form_here", "_law_number_here", "_law_times", "_law_a", "_law_b", "_law_q", "_law_c", "_law_e", "_law_r", "_law_one", "_law_two", "_law_three", "_law_tops", "_law_rises", "_law_more", "_law_good", "_law_less", "_law_parts", "_law_distance", "_law_whole", "_law_due"] ["_law_pot_here"] (defScope s_law_right) := ⟨rfl, rfl, rfl, by decide +kernel, rfl, by decide +kernel, by decide +kernel⟩
theorem ok_law_right (T : Txt K mg) : DefOk P w K mg base 8 (ga K "_law_right") ["_law_pot_here"] [] F_law_right := by
  refine def_ok (N := ["_law_pot_here", "_law_rows", "_law_k", "_law_forms", "_law_row", "_law_kept", "_law_form_here", "_law_number_here", "_law_times", "_law_a", "_law_b", "_law_q", "_law_c", "_law_e", "_law_r", "_law_one", "_law_two", "_law_three", "_law_tops", "_law_rises", "_law_more", "_law_good", "_law_less", "_law_parts", "_law_distance", "_law_whole", "_law_due"]) (k := 7) (g := g_law_right) T.d_law_right sc_law_right (fun _ _ _ _ _ _ us hl => match us, hl with | [_], _ => rfl) ?_
  intro cdv A outer s H E hr
  exact (ss_cons (ss_setLc (own := [("_law_k", 2)]) (t := (.one 2)) rfl sc_law_right.nd (si_range1 (by rfl) T.n_range (sa_cons se_int sa_nil)) (blkOk_by (by rfl)) (by decide) (fun _ _ _ _ _ => (pg_name (i := 2) sc_law_right.nd rfl (by first | exact Or.inl rfl | exact Or.inr rfl))) (fun _ _ _ _ _ => sts_nil) (fun _ _ _ _ _ => (se_callD (ok_law_form T) 0 (by decide) (fun _ _ => .nil) (hr.mono (by decide)) takesF (by rfl) T.m_law_form (sa_cons (se_var (pv 0)) sa_nil))) (by intro _; rfl) (i := 1) rfl rfl (sw_true rfl rfl (by decide) (by decide +kernel))) (ss_cons (ss_setLc (own := [("_law_row", 4)]) (t := (.one 4)) rfl sc_law_right.nd (si_seq (se_var (pv 1))) (blkOk_by (by rfl)) (by decide) (fun _ _ _ _ _ => (pg_name (i := 4) sc_law_right.nd rfl (by first | exact Or.inl rfl | exact Or.inr rfl))) (fun _ _ _ _ _ => sts_nil) (fun _ _ _ _ _ => (se_makeD (ci := 0) (ok_Form_init T) 2 (by decide) (fun _ _ => .nil) (hr.mono (by decide)) takesF (by exact T.m_Form) T.mk_Form (by rfl) T.m_Form (sa_cons (se_ix (se_var (pv 4)) se_int (fun _ _ => rfl)) (sa_cons (se_ix (se_var (pv 4)) se_int (fun _ _ => rfl)) (sa_cons (se_ix (se_var (pv 4)) se_int (fun _ _ => rfl)) sa_nil))))) (by intro _; rfl) (i := 3) rfl rfl (sw_true rfl rfl (by decide) (by decide +kernel))) (ss_cons (ss_setLc (own := [("_law_form_here", 6)]) (t := (.one 6)) rfl sc_law_right.nd (si_seq (se_var (pv 3))) (blkOk_by (by rfl)) (by decide) (fun _ _ _ _ _ => (pg_name (i := 6) sc_law_right.nd rfl (by first | exact Or.inl rfl | exact Or.inr rfl))) (fun _ _ _ _ _ => sts_nil) (fun _ _ _ _ _ => (se_meth0D (c := 0) (ok_Form_parts T) 0 (by decide) (fun _ _ => .nil) (hr.mono (by decide)) takesF (by exact T.m_Form) T.cl_Form T.me_Form_parts (by decide +kernel) (se_var (pv 6)))) (by intro _; rfl) (i := 5) rfl rfl (sw_true rfl rfl (by decide) (by decide +kernel))) (ss_cons (ss_par (i := 7) (j := 8) rfl sc_law_right.nd rfl rfl (by decide) rfl rfl (sa_cons (se_callD (ok_law_number T) 0 (by decide) (fun _ _ => .nil) (hr.mono (by decide)) (takes_of rfl rfl rfl rfl) (by rfl) T.m_law_number (sa_cons (se_var (pv 0)) sa_nil)) (sa_cons (se_ix (se_lst (sa_cons (se_callD (ok_law_dip T) 0 (by decide) (fun _ _ => .nil) (hr.mono (by decide)) (takes_of rfl rfl rfl rfl) (by rfl) T.m_law_dip (sa_cons (se_var (pv 0)) (sa_cons se_int sa_nil))) (sa_cons (se_bin op_sub fits_sub se_int (se_callD (ok_law_dip T) 0 (by decide) (fun _ _ => .nil) (hr.mono (by decide)) (takes_of rfl rfl rfl rfl) (by rfl) T.m_law_dip (sa_cons (se_var (pv 0)) (sa_cons (se_bin op_powW fits_pow se_int se_int) sa_nil)))) sa_nil))) (se_callD (ok_law_dip T) 0 (by decide) (fun _ _ => .nil) (hr.mono (by decide)) (takes_of rfl rfl rfl rfl) (by rfl) T.m_law_dip (sa_cons (se_var (pv 0)) (sa_cons se_int sa_nil))) (fun _ _ => rfl)) sa_nil)) (by rfl)) (ss_cons (ss_asg (t := (.nest [.tp [9, 10, 11], .tp [12, 13, 14]])) (pg_tup (by rfl) (pgs_cons (pg_tup (by rfl) (pgs_cons (pg_name (i := 9) sc_law_right.nd rfl (by first | exact Or.inl rfl | exact Or.inr rfl)) (pgs_cons (pg_name (i := 10) sc_law_right.nd rfl (by first | exact Or.inl rfl | exact Or.inr rfl)) (pgs_cons (pg_name (i := 11) sc_law_right.nd rfl (by first | exact Or.inl rfl | exact Or.inr rfl)) pgs_nil)))) (pgs_cons (pg_tup (by rfl) (pgs_cons (pg_name (i := 12) sc_law_right.nd rfl (by first | exact Or.inl rfl | exact Or.inr rfl)) (pgs_cons (pg_name (i := 13) sc_law_right.nd rfl (by first | exact Or.inl rfl | exact Or.inr rfl)) (pgs_cons (pg_name (i := 14) sc_law_right.nd rfl (by first | exact Or.inl rfl | exact Or.inr rfl)) pgs_nil)))) pgs_nil))) (se_tup (sa_cons (se_ix (se_var (pv 1)) se_int (fun _ _ => rfl)) (sa_cons (se_ix (se_var (pv 1)) se_int (fun _ _ => rfl)) sa_nil)))) (ss_cons (ss_par3 (i := 15) (j := 16) (l := 17) rfl sc_law_right.nd rfl rfl rfl (by decide) (by decide) (by decide) rfl rfl rfl (sa_cons (se_ix (se_var (pv 3)) se_int (fun _ _ => rfl)) (sa_cons (se_ix (se_var (pv 3)) se_int (fun _ _ => rfl)) (sa_cons (se_ix (se_var (pv 3)) se_int (fun _ _ => rfl)) sa_nil))) (by rfl)) (ss_cons (ss_par (i := 18) (j := 19) rfl sc_law_right.nd rfl rfl (by decide) rfl rfl (sa_cons (se_lst (sa_cons (se_bin op_mulW fits_mul (se_var (pv 9)) (se_var (pv 14))) (sa_cons (se_bin op_mulW fits_mul (se_var (pv 12)) (se_var (pv 11))) sa_nil))) (sa_cons (se_lst (sa_cons (se_bin op_mulW fits_mul (se_var (pv 10)) (se_var (pv 14))) (sa_cons (se_bin op_mulW fits_mul (se_var (pv 13)) (se_var (pv 11))) sa_nil))) sa_nil)) (by rfl)) (ss_cons (ss_set (i := 20) sc_law_right.nd rfl (by first | exact Or.inl rfl | exact Or.inr rfl) (se_lst (sa_cons (se_bin op_addA fits_add (se_ix (se_var (pv 18)) se_int (fun _ _ => rfl)) (se_ix (se_var (pv 18)) se_int (fun _ _ => rfl))) (sa_cons (se_bin op_addA fits_add (se_ix (se_var (pv 19)) se_int (fun _ _ => rfl)) (se_ix (se_var (pv 19)) se_int (fun _ _ => rfl))) sa_nil)))) (ss_cons (ss_set (i := 21) sc_law_right.nd rfl (by first | exact Or.inl rfl | exact Or.inr rfl) (se_new (sa_cons (se_callD (ok_law_same T) 0 (by decide) (fun _ _ => .nil) (hr.mono (by decide)) (takes_of rfl rfl rfl rfl) (by rfl) T.m_law_same (sa_cons (se_binS (BinS.ownI (c := 0) (ok_Form_add T) (hr.mono (by decide)) (takes_of rfl rfl rfl rfl) (by exact T.m_Form) T.me_Form_add T.sf_Form dBad_ok) (se_var (pv 15)) (se_var (pv 16))) (sa_cons (se_ix (se_var (pv 20)) se_int (fun _ _ => rfl)) (sa_cons (se_ix (se_var (pv 20)) se_int (fun _ _ => rfl)) (sa_cons (se_bin op_mulW fits_mul (se_var (pv 11)) (se_var (pv 14))) sa_nil))))) sa_nil))) (ss_cons (ss_set (i := 22) sc_law_right.nd rfl (by first | exact Or.inl rfl | exact Or.inr rfl) (se_lst (sa_cons (se_bin op_sub fits_sub (se_ix (se_var (pv 18)) se_int (fun _ _ => rfl)) (se_ix (se_var (pv 18)) se_int (fun _ _ => rfl))) (sa_cons (se_bin op_sub fits_sub (se_ix (se_var (pv 19)) se_int (fun _ _ => rfl)) (se_ix (se_var (pv 19)) se_int (fun _ _ => rfl))) sa_nil)))) (ss_cons (ss_drop (se_bm PySem.F.plainAttrs_list PySem.F.slot_list_append PySem.F.type_list_append mt_append fits_app (by decide) (se_var (pv 21)) (sa_cons (se_callD (ok_law_same T) 0 (by decide) (fun _ _ => .nil) (hr.mono (by decide)) (takes_of rfl rfl rfl rfl) (by rfl) T.m_law_same (sa_cons (se_binS (BinS.ownI (c := 0) (ok_Form_sub T) (hr.mono (by decide)) (takes_of rfl rfl rfl rfl) (by exact T.m_Form) T.me_Form_sub T.sf_Form dBad_ok) (se_var (pv 15)) (se_var (pv 16))) (sa_cons (se_ix (se_var (pv 22)) se_int (fun _ _ => rfl)) (sa_cons (se_ix (se_var (pv 22)) se_int (fun _ _ => rfl)) (sa_cons (se_bin op_mulW fits_mul (se_var (pv 11)) (se_var (pv 14))) sa_nil))))) sa_nil))) (ss_cons (ss_drop (se_bm PySem.F.plainAttrs_list PySem.F.slot_list_append PySem.F.type_list_append mt_append fits_app (by decide) (se_var (pv 21)) (sa_cons (se_callD (ok_law_same T) 0 (by decide) (fun _ _ => .nil) (hr.mono (by decide)) (takes_of rfl rfl rfl rfl) (by rfl) T.m_law_same (sa_cons (se_binS (BinS.ownN (c := 0) (ok_Form_add T) (hr.mono (by decide)) (takes_of rfl rfl rfl rfl) (by exact T.m_Form) T.me_Form_add T.sf_Form T.on_Form_add dBad_ok) (se_var (pv 15)) (se_var (pv 7))) (sa_cons (se_bin op_addA fits_add (se_var (pv 9)) (se_bin op_mulW fits_mul (se_var (pv 7)) (se_var (pv 11)))) (sa_cons (se_var (pv 10)) (sa_cons (se_var (pv 11)) sa_nil))))) sa_nil))) (ss_cons (ss_drop (se_bm PySem.F.plainAttrs_list PySem.F.slot_list_append PySem.F.type_list_append mt_append fits_app (by decide) (se_var (pv 21)) (sa_cons (se_callD (ok_law_same T) 0 (by decide) (fun _ _ => .nil) (hr.mono (by decide)) (takes_of rfl rfl rfl rfl) (by rfl) T.m_law_same (sa_cons (se_binS (BinS.ownN (c := 0) (ok_Form_sub T) (hr.mono (by decide)) (takes_of rfl rfl rfl rfl) (by exact T.m_Form) T.me_Form_sub T.sf_Form T.on_Form_sub dBad_ok) (se_var (pv 15)) (se_var (pv 7))) (sa_cons (se_bin op_sub fits_sub (se_var (pv 9)) (se_bin op_mulW fits_mul (se_var (pv 7)) (se_var (pv 11)))) (sa_cons (se_var (pv 10)) (sa_cons (se_var (pv 11)) sa_nil))))) sa_nil))) (ss_cons (ss_drop (se_bm PySem.F.plainAttrs_list PySem.F.slot_list_append PySem.F.type_list_append mt_append fits_app (by decide) (se_var (pv 21)) (sa_cons (se_callD (ok_law_same T) 0 (by decide) (fun _ _ => .nil) (hr.mono (by decide)) (takes_of rfl rfl rfl rfl) (by rfl) T.m_law_same (sa_cons (se_unS (UnS.neg (c := 0) (ok_Form_neg T) (hr.mono (by decide)) (takes_of rfl rfl rfl rfl) (by exact T.m_Form) T.me_Form_neg uBad_ok) (se_var (pv 15))) (sa_cons (se_bin op_sub fits_sub se_int (se_var (pv 9))) (sa_cons (se_bin op_sub fits_sub se_int (se_var (pv 10))) (sa_cons (se_var (pv 11)) sa_nil))))) sa_nil))) (ss_cons (ss_drop (se_bm PySem.F.plainAttrs_list PySem.F.slot_list_append PySem.F.type_list_append mt_append fits_app (by decide) (se_var (pv 21)) (sa_cons (se_callD (ok_law_same T) 0 (by decide) (fun _ _ => .nil) (hr.mono (by decide)) (takes_of rfl rfl rfl rfl) (by rfl) T.m_law_same (sa_cons (se_binS (BinS.ownN (c := 0) (ok_Form_mul T) (hr.mono (by decide)) (takes_of rfl rfl rfl rfl) (by exact T.m_Form) T.me_Form_mul T.sf_Form T.on_Form_mul dBad_ok) (se_var (pv 15)) (se_var (pv 8))) (sa_cons (se_bin op_mulW fits_mul (se_var (pv 9)) (se_var (pv 8))) (sa_cons (se_bin op_mulW fits_mul (se_var (pv 10)) (se_var (pv 8))) (sa_cons (se_var (pv 11)) sa_nil))))) sa_nil))) (ss_cons (ss_drop (se_bm PySem.F.plainAttrs_list PySem.F.slot_list_append PySem.F.type_list_append mt_append fits_app (by decide) (se_var (pv 21)) (sa_cons (se_cmpS (BinS.ownE (c := 0) (ok_Form_eq T) (hr.mono (by decide)) (takes_of rfl rfl rfl rfl) (by exact T.m_Form) T.me_Form_eq T.nt_Form dBad_ok) (se_binS (BinS.ownI (c := 0) (ok_Form_add T) (hr.mono (by decide)) (takes_of rfl rfl rfl rfl) (by exact T.m_Form) T.me_Form_add T.sf_Form dBad_ok) (se_var (pv 15)) (se_var (pv 16))) (se_binS (BinS.ownI (c := 0) (ok_Form_add T) (hr.mono (by decide)) (takes_of rfl rfl rfl rfl) (by exact T.m_Form) T.me_Form_add T.sf_Form dBad_ok) (se_var (pv 16)) (se_var (pv 15))) (nomark _)) sa_nil))) (ss_cons (ss_drop (se_bm PySem.F.plainAttrs_list PySem.F.slot_list_append PySem.F.type_list_append mt_append fits_app (by decide) (se_var (pv 21)) (sa_cons (se_cmpS (BinS.ownE (c := 0) (ok_Form_eq T) (hr.mono (by decide)) (takes_of rfl rfl rfl rfl) (by exact T.m_Form) T.me_Form_eq T.nt_Form dBad_ok) (se_binS (BinS.ownI (c := 0) (ok_Form_add T) (hr.mono (by decide)) (takes_of rfl rfl rfl rfl) (by exact T.m_Form) T.me_Form_add T.sf_Form dBad_ok) (se_binS (BinS.ownI (c := 0) (ok_Form_add T) (hr.mono (by decide)) (takes_of rfl rfl rfl rfl) (by exact T.m_Form) T.me_Form_add T.sf_Form dBad_ok) (se_var (pv 15)) (se_var (pv 16))) (se_var (pv 17))) (se_binS (BinS.ownI (c := 0) (ok_Form_add T) (hr.mono (by decide)) (takes_of rfl rfl rfl rfl) (by exact T.m_Form) T.me_Form_add T.sf_Form dBad_ok) (se_var (pv 15)) (se_binS (BinS.ownI (c := 0) (ok_Form_add T) (hr.mono (by decide)) (takes_of rfl rfl rfl rfl) (by exact T.m_Form) T.me_Form_add T.sf_Form dBad_ok) (se_var (pv 16)) (se_var (pv 17)))) (nomark _)) sa_nil))) (ss_cons (ss_drop (se_bm PySem.F.plainAttrs_list PySem.F.slot_list_append PySem.F.type_list_append mt_append fits_app (by decide) (se_var (pv 21)) (sa_cons (se_and (se_cmpS (BinS.ownE (c := 0) (ok_Form_eq T) (hr.mono (by decide)) (takes_of rfl rfl rfl rfl) (by exact T.m_Form) T.me_Form_eq T.nt_Form dBad_ok) (se_binS (BinS.ownI (c := 0) (ok_Form_add T) (hr.mono (by decide)) (takes_of rfl rfl rfl rfl) (by exact T.m_Form) T.me_Form_add T.sf_Form dBad_ok) (se_binS (BinS.ownI (c := 0) (ok_Form_sub T) (hr.mono (by decide)) (takes_of rfl rfl rfl rfl) (by exact T.m_Form) T.me_Form_sub T.sf_Form dBad_ok) (se_var (pv 15)) (se_var (pv 16))) (se_var (pv 16))) (se_var (pv 15)) (nomark _)) (se_one (se_cmpS (BinS.ownE (c := 0) (ok_Form_eq T) (hr.mono (by decide)) (takes_of rfl rfl rfl rfl) (by exact T.m_Form) T.me_Form_eq T.nt_Form dBad_ok) (se_unS (UnS.neg (c := 0) (ok_Form_neg T) (hr.mono (by decide)) (takes_of rfl rfl rfl rfl) (by exact T.m_Form) T.me_Form_neg uBad_ok) (se_unS (UnS.neg (c := 0) (ok_Form_neg T) (hr.mono (by decide)) (takes_of rfl rfl rfl rfl) (by exact T.m_Form) T.me_Form_neg uBad_ok) (se_var (pv 15)))) (se_var (pv 15)) (nomark _)))) sa_nil))) (ss_cons (ss_drop (se_bm PySem.F.plainAttrs_list PySem.F.slot_list_append PySem.F.type_list_append mt_append fits_app (by decide) (se_var (pv 21)) (sa_cons (se_cmpS (BinS.ownE (c := 0) (ok_Form_eq T) (hr.mono (by decide)) (takes_of rfl rfl rfl rfl) (by exact T.m_Form) T.me_Form_eq T.nt_Form dBad_ok) (se_binS (BinS.ownI (c := 0) (ok_Form_sub T) (hr.mono (by decide)) (takes_of rfl rfl rfl rfl) (by exact T.m_Form) T.me_Form_sub T.sf_Form dBad_ok) (se_var (pv 15)) (se_var (pv 15))) (se_makeD (ci := 0) (ok_Form_init T) 0 (by decide) (fun _ _ => .cons (.int _) (.cons (.int _) (.nil))) (hr.mono (by decide)) (takes_of rfl rfl rfl rfl) (by exact T.m_Form) T.mk_Form (by rfl) T.m_Form (sa_cons se_int sa_nil)) (nomark _)) sa_nil))) (ss_cons (ss_set (i := 23) sc_law_right.nd rfl (by first | exact Or.inl rfl | exact Or.inr rfl) (se_lst (sa_cons (se_binS (BinS.ownN (c := 0) (ok_Form_mul T) (hr.mono (by decide)) (takes_of rfl rfl rfl rfl) (by exact T.m_Form) T.me_Form_mul T.sf_Form T.on_Form_mul dBad_ok) (se_var (pv 15)) (se_var (pv 8))) (sa_cons (se_binS (BinS.ownN (c := 0) (ok_Form_mul T) (hr.mono (by decide)) (takes_of rfl rfl rfl rfl) (by exact T.m_Form) T.me_Form_mul T.sf_Form T.on_Form_mul dBad_ok) (se_var (pv 16)) (se_var (pv 8))) sa_nil)))) (ss_cons (ss_drop (se_bm PySem.F.plainAttrs_list PySem.F.slot_list_append PySem.F.type_list_append mt_append fits_app (by decide) (se_var (pv 21)) (sa_cons (se_cmpS (BinS.ownE (c := 0) (ok_Form_eq T) (hr.mono (by decide)) (takes_of rfl rfl rfl rfl) (by exact T.m_Form) T.me_Form_eq T.nt_Form dBad_ok) (se_binS (BinS.ownN (c := 0) (ok_Form_mul T) (hr.mono (by decide)) (takes_of rfl rfl rfl rfl) (by exact T.m_Form) T.me_Form_mul T.sf_Form T.on_Form_mul dBad_ok) (se_binS (BinS.ownI (c := 0) (ok_Form_add T) (hr.mono (by decide)) (takes_of rfl rfl rfl rfl) (by exact T.m_Form) T.me_Form_add T.sf_Form dBad_ok) (se_var (pv 15)) (se_var (pv 16))) (se_var (pv 8))) (se_binS (BinS.ownI (c := 0) (ok_Form_add T) (hr.mono (by decide)) (takes_of rfl rfl rfl rfl) (by exact T.m_Form) T.me_Form_add T.sf_Form dBad_ok) (se_ix (se_var (pv 23)) se_int (fun _ _ => rfl)) (se_ix (se_var (pv 23)) se_int (fun _ _ => rfl))) (nomark _)) sa_nil))) (ss_cons (ss_drop (se_bm PySem.F.plainAttrs_list PySem.F.slot_list_append PySem.F.type_list_append mt_append fits_app (by decide) (se_var (pv 21)) (sa_cons (se_and (se_cmpS (BinS.ownE (c := 0) (ok_Form_eq T) (hr.mono (by decide)) (takes_of rfl rfl rfl rfl) (by exact T.m_Form) T.me_Form_eq T.nt_Form dBad_ok) (se_binS (BinS.ownN (c := 0) (ok_Form_mul T) (hr.mono (by decide)) (takes_of rfl rfl rfl rfl) (by exact T.m_Form) T.me_Form_mul T.sf_Form T.on_Form_mul dBad_ok) (se_var (pv 15)) se_int) (se_var (pv 15)) (nomark _)) (se_one (se_cmpS (BinS.ownE (c := 0) (ok_Form_eq T) (hr.mono (by decide)) (takes_of rfl rfl rfl rfl) (by exact T.m_Form) T.me_Form_eq T.nt_Form dBad_ok) (se_binS (BinS.ownN (c := 0) (ok_Form_mul T) (hr.mono (by decide)) (takes_of rfl rfl rfl rfl) (by exact T.m_Form) T.me_Form_mul T.sf_Form T.on_Form_mul dBad_ok) (se_var (pv 15)) se_int) (se_makeD (ci := 0) (ok_Form_init T) 0 (by decide) (fun _ _ => .cons (.int _) (.cons (.int _) (.nil))) (hr.mono (by decide)) (takes_of rfl rfl rfl rfl) (by exact T.m_Form) T.mk_Form (by rfl) T.m_Form (sa_cons se_int sa_nil)) (nomark _)))) sa_nil))) (ss_cons (ss_if (sb_w (sw_or (sb_cmp op_in_seq fits_inL se_bl (se_var (pv 21)) (by rfl)) (sw_or1 (sb_cmp (op_neD hr.units) fits_ne (se_lc (own := [("_law_form_here", 6)]) (t := (.one 6)) rfl sc_law_right.nd (si_seq (se_var (pv 3))) (blkOk_by (by rfl)) (by decide) (fun _ _ _ _ _ => (pg_name (i := 6) sc_law_right.nd rfl (by first | exact Or.inl rfl | exact Or.inr rfl))) (fun _ _ _ _ _ => sts_nil) (fun _ _ _ _ _ => (se_meth0D (c := 0) (ok_Form_parts T) 0 (by decide) (fun _ _ => .nil) (hr.mono (by decide)) takesF (by exact T.m_Form) T.cl_Form T.me_Form_parts (by decide +kernel) (se_var (pv 6)))) (by intro _; rfl)) (se_var (pv 5)) (nomark _))))) (ss_one (ss_ret se_bl)) ss_nil) (ss_cons (ss_set (i := 24) sc_law_right.nd rfl (by first | exact Or.inl rfl | exact Or.inr rfl) (se_bin op_mulW fits_mul (se_bin op_mulW fits_mul (se_var (pv 11)) (se_var (pv 14))) (se_bin op_addA fits_add se_int (se_callD (ok_law_dip T) 0 (by decide) (fun _ _ => .nil) (hr.mono (by decide)) (takes_of rfl rfl rfl rfl) (by rfl) T.m_law_dip (sa_cons (se_var (pv 0)) (sa_cons se_int sa_nil)))))) (ss_cons (ss_set (i := 25) sc_law_right.nd rfl (by first | exact Or.inl rfl | exact Or.inr rfl) (se_new (sa_cons (se_makeD (ci := 0) (ok_Form_init T) 2 (by decide) (fun _ _ => .nil) (hr.mono (by decide)) (takes_of rfl rfl rfl rfl) (by exact T.m_Form) T.mk_Form (by rfl) T.m_Form (sa_cons (se_bin op_mulW fits_mul (se_var (pv 9)) (se_var (pv 11))) (sa_cons (se_var (pv 10)) (sa_cons (se_var (pv 11)) sa_nil)))) sa_nil))) (ss_cons (ss_drop (se_bm PySem.F.plainAttrs_list PySem.F.slot_list_append PySem.F.type_list_append mt_append fits_app (by decide) (se_var (pv 25)) (sa_cons (se_makeD (ci := 0) (ok_Form_init T) 2 (by decide) (fun _ _ => .nil) (hr.mono (by decide)) (takes_of rfl rfl rfl rfl) (by exact T.m_Form) T.mk_Form (by rfl) T.m_Form (sa_cons (se_bin op_mulW fits_mul (se_var (pv 12)) (se_var (pv 14))) (sa_cons (se_var (pv 13)) (sa_cons (se_var (pv 14)) sa_nil)))) sa_nil))) (ss_cons (ss_set (i := 26) sc_law_right.nd rfl (by first | exact Or.inl rfl | exact Or.inr rfl) (se_new (sa_cons (se_bin op_addA fits_add (se_var (pv 9)) (se_bin op_fdivA fits_div (se_bin op_mulW fits_mul (se_var (pv 10)) (se_var (pv 24))) (se_var (pv 11)))) sa_nil))) (ss_cons (ss_drop (se_bm PySem.F.plainAttrs_list PySem.F.slot_list_append PySem.F.type_list_append mt_append fits_app (by decide) (se_var (pv 26)) (sa_cons (se_bin op_addA fits_add (se_var (pv 12)) (se_bin op_fdivA fits_div (se_bin op_mulW fits_mul (se_var (pv 13)) (se_var (pv 24))) (se_var (pv 14)))) sa_nil))) (ss_cons (ss_if (sb_cmp (op_neD hr.units) fits_ne (se_lc (own := [("_law_form_here", 6)]) (t := (.one 6)) rfl sc_law_right.nd (si_seq (se_var (pv 25))) (blkOk_by (by rfl)) (by decide) (fun _ _ _ _ _ => (pg_name (i := 6) sc_law_right.nd rfl (by first | exact Or.inl rfl | exact Or.inr rfl))) (fun _ _ _ _ _ => sts_nil) (fun _ _ _ _ _ => (se_ocall (c := 0) (ok_Form_call T) (hr.mono (by decide)) takesF (by exact T.m_Form) T.co_Form (se_var (pv 6)) (sa_cons (se_var (pv 24)) sa_nil))) (by intro _; rfl)) (se_var (pv 26)) (nomark _)) (ss_one (ss_ret se_bl)) ss_nil) (ss_cons (ss_set (i := 20) sc_law_right.nd rfl (by first | exact Or.inl rfl | exact Or.inr rfl) (se_lst (sa_cons (se_binS (BinS.ownI (c := 0) (ok_Form_add T) (hr.mono (by decide)) (takes_of rfl rfl rfl rfl) (by exact T.m_Form) T.me_Form_add T.sf_Form dBad_ok) (se_ix (se_var (pv 25)) se_int (fun _ _ => rfl)) (se_ix (se_var (pv 25)) se_int (fun _ _ => rfl))) (sa_cons (se_binS (BinS.ownN (c := 0) (ok_Form_mul T) (hr.mono (by decide)) (takes_of rfl rfl rfl rfl) (by exact T.m_Form) T.me_Form_mul T.sf_Form T.on_Form_mul dBad_ok) (se_ix (se_var (pv 25)) se_int (fun _ _ => rfl)) (se_var (pv 8))) sa_nil)))) (ss_one (ss_ret (se_cmp (op_eqD hr.units) fits_eq (se_lc (own := [("_law_form_here", 6)]) (t := (.one 6)) rfl sc_law_right.nd (si_seq (se_var (pv 20))) (blkOk_by (by rfl)) (by decide) (fun _ _ _ _ _ => (pg_name (i := 6) sc_law_right.nd rfl (by first | exact Or.inl rfl | exact Or.inr rfl))) (fun _ _ _ _ _ => sts_nil) (fun _ _ _ _ _ => (se_ocall (c := 0) (ok_Form_call T) (hr.mono (by decide)) takesF (by exact T.m_Form) T.co_Form (se_var (pv 6)) (sa_cons (se_var (pv 24)) sa_nil))) (by intro _; rfl)) (se_lst (sa_cons (se_bin op_addA fits_add (se_ix (se_var (pv 26)) se_int (fun _ _ => rfl)) (se_ix (se_var (pv 26)) se_int (fun _ _ => rfl))) (sa_cons (se_bin op_mulW fits_mul (se_ix (se_var (pv 26)) se_int (fun _ _ => rfl)) (se_var (pv 8))) sa_nil))) (nomark _))))))))))))))))))))))))))))))))))
theorem sc_law : FnScope ["_law_script", "_law_k", "_law_pot_here", "_law_lap"] ["_law_script"] (defScope s_law) := ⟨rfl, rfl, rfl, by decide +kernel, rfl, by decide +kernel, by decide +kernel⟩
theorem bd_law (T : Txt K mg) : BodyOk P w K mg base ["_law_script", "_law_k", "_law_pot_here", "_law_lap"] "law" s_law (ga K "law") 8 g_law := by
  intro cdv A outer s H E hr
  exact (ss_cons (ss_for (t := (.one 1)) (passes_of rfl) rfl (si_range1 (by rfl) T.n_range (sa_cons (se_callB (call_max2 rfl) fits_max (by rfl) T.n_max (by decide +kernel) (sa_cons se_int (sa_cons (se_callB (call_min2 rfl) fits_min (by rfl) T.n_min (by decide +kernel) (sa_cons se_int (sa_cons (se_callB call_lenA fits_len (by rfl) T.n_len (by decide +kernel) (sa_cons (se_var (pv 0)) sa_nil)) sa_nil))) sa_nil))) sa_nil)) (pg_name (i := 1) sc_law.nd rfl (by first | exact Or.inl rfl | exact Or.inr rfl)) (ss_cons (ss_set (i := 2) sc_law.nd rfl (by first | exact Or.inl rfl | exact Or.inr rfl) (se_callD (ok_law_pot T) 0 (by decide) (fun _ _ => .nil) (hr.mono (by decide)) (takes_of rfl rfl rfl rfl) (by rfl) T.m_law_pot (sa_cons (se_var (pv 0)) (sa_cons (se_var (pv 1)) sa_nil)))) (ss_one (ss_for (t := (.one 3)) (passes_of rfl) rfl (si_range1 (by rfl) T.n_range (sa_cons se_int sa_nil)) (pg_name (i := 3) sc_law.nd rfl (by first | exact Or.inl rfl | exact Or.inr rfl)) (ss_one (ss_if (sb_not (sb_tru (se_callD (ok_law_right T) 0 (by decide) (fun _ _ => .nil) (hr.mono (by decide)) (takes_of rfl rfl rfl rfl) (by rfl) T.m_law_right (sa_cons (se_var (pv 2)) sa_nil)) (fun _ => rfl))) (ss_one (ss_ret se_bl)) ss_nil)))))) (ss_one (ss_ret se_bl)))
end

def dd_law_pot : DefD := ⟨("_law_pot", none), "_law_pot", "_law_pot", defArgs s_law_pot, defBody s_law_pot, defScope s_law_pot, [], []⟩
def dd_law_dip : DefD := ⟨("_law_dip", none), "_law_dip", "_law_dip", defArgs s_law_dip, defBody s_law_dip, defScope s_law_dip, [], []⟩
def dd_law_number : DefD := ⟨("_law_number", none), "_law_number", "_law_number", defArgs s_law_number, defBody s_law_number, defScope s_law_number, [], []⟩
def dd_law_form : DefD := ⟨("_law_form", none), "_law_form", "_law_form", defArgs s_law_form, defBody s_law_form, defScope s_law_form, [], []⟩
def dd_is_whole : DefD := ⟨("is_whole", none), "is_whole", "is_whole", defArgs s_is_whole, defBody s_is_whole, defScope s_is_whole, [], []⟩
def dd_common_divisor : DefD := ⟨("common_divisor", none), "common_divisor", "common_divisor", defArgs s_common_divisor, defBody s_common_divisor, defScope s_common_divisor, [], []⟩
def dd_Form_init : DefD := ⟨("Form", some "__init__"), "__init__", "Form.__init__", defArgs s_Form_init, defBody s_Form_init, defScope s_Form_init, [.int 0, .int 1], []⟩
def dd_Form_parts : DefD := ⟨("Form", some "parts"), "parts", "Form.parts", defArgs s_Form_parts, defBody s_Form_parts, defScope s_Form_parts, [], []⟩
def dd_Form_eq : DefD := ⟨("Form", some "__eq__"), "__eq__", "Form.__eq__", defArgs s_Form_eq, defBody s_Form_eq, defScope s_Form_eq, [], []⟩
def dd_law_same : DefD := ⟨("_law_same", none), "_law_same", "_law_same", defArgs s_law_same, defBody s_law_same, defScope s_law_same, [], []⟩
def dd_form_of : DefD := ⟨("form_of", none), "form_of", "form_of", defArgs s_form_of, defBody s_form_of, defScope s_form_of, [], []⟩
def dd_parts_of : DefD := ⟨("parts_of", none), "parts_of", "parts_of", defArgs s_parts_of, defBody s_parts_of, defScope s_parts_of, [], []⟩
def dd_Form_add : DefD := ⟨("Form", some "__add__"), "__add__", "Form.__add__", defArgs s_Form_add, defBody s_Form_add, defScope s_Form_add, [], []⟩
def dd_Form_neg : DefD := ⟨("Form", some "__neg__"), "__neg__", "Form.__neg__", defArgs s_Form_neg, defBody s_Form_neg, defScope s_Form_neg, [], []⟩
def dd_Form_sub : DefD := ⟨("Form", some "__sub__"), "__sub__", "Form.__sub__", defArgs s_Form_sub, defBody s_Form_sub, defScope s_Form_sub, [], []⟩
def dd_Form_mul : DefD := ⟨("Form", some "__mul__"), "__mul__", "Form.__mul__", defArgs s_Form_mul, defBody s_Form_mul, defScope s_Form_mul, [], []⟩
def dd_Form_call : DefD := ⟨("Form", some "__call__"), "__call__", "Form.__call__", defArgs s_Form_call, defBody s_Form_call, defScope s_Form_call, [], []⟩
def dd_law_right : DefD := ⟨("_law_right", none), "_law_right", "_law_right", defArgs s_law_right, defBody s_law_right, defScope s_law_right, [], []⟩
def dd_law : DefD := ⟨("law", none), "law", "law", defArgs s_law, defBody s_law, defScope s_law, [], []⟩
def fn : List DefD := [dd_law_pot, dd_law_dip, dd_law_number, dd_law_form, dd_is_whole, dd_common_divisor, dd_Form_init, dd_Form_parts, dd_Form_eq, dd_law_same, dd_form_of, dd_parts_of, dd_Form_add, dd_Form_neg, dd_Form_sub, dd_Form_mul, dd_Form_call, dd_law_right, dd_law]
def fx : List (PySem.W.Frag → Bool) := [bFree "len", bFree "min", bFree "max", bFree "range", bFree "int", bFree "abs", bGlo "_law_pot", bGlo "_law_dip", bGlo "_law_number", bGlo "_law_form", bFree "isinstance", bFree "bool", bGlo "is_whole", bGlo "NoForm", bExc "NoForm", bGlo "common_divisor", bGlo "Form", bCls "Form", bNoat "Form" "row", bMkr "Form", bMeth "Form" "parts", bOwn "Form", bKit "Form" "Form" true, bInsC "Form", bMeth "Form" "__eq__", bNe "Form", bNt "Form", bGlo "form_of", bGlo "parts_of", bMeth "Form" "__add__", bSelf "Form", bGlo "_law_same", bMeth "Form" "__neg__", bMeth "Form" "__sub__", bOpN "Form" "add", bOpN "Form" "sub", bMeth "Form" "__mul__", bOpN "Form" "mul", bCallO "Form", bGlo "_law_right", bGlo "law"]
theorem txt {K : PySem.W.Frag} {h : Heap} {mg : Str → Option Value} (KX : K.In h) (G : h.Ns mainGlobals mg) (c : obsS fx fn K = valS fn) : Txt K mg where
  n_len := free_ok KX G (sFact c 0)
  n_min := free_ok KX G (sFact c 1)
  n_max := free_ok KX G (sFact c 2)
  n_range := free_ok KX G (sFact c 3)
  n_int := free_ok KX G (sFact c 4)
  n_abs := free_ok KX G (sFact c 5)
  d_law_pot := sDef c 0 (d := dd_law_pot) rfl
  m_law_pot := glo_ok KX G (sFact c 6)
  d_law_dip := sDef c 1 (d := dd_law_dip) rfl
  m_law_dip := glo_ok KX G (sFact c 7)
  d_law_number := sDef c 2 (d := dd_law_number) rfl
  m_law_number := glo_ok KX G (sFact c 8)
  d_law_form := sDef c 3 (d := dd_law_form) rfl
  m_law_form := glo_ok KX G (sFact c 9)
  n_isinstance := free_ok KX G (sFact c 10)
  n_bool := free_ok KX G (sFact c 11)
  d_is_whole := sDef c 4 (d := dd_is_whole) rfl
  m_is_whole := glo_ok KX G (sFact c 12)
  m_NoForm := glo_ok KX G (sFact c 13)
  x_NoForm := sFact c 14
  d_common_divisor := sDef c 5 (d := dd_common_divisor) rfl
  m_common_divisor := glo_ok KX G (sFact c 15)
  m_Form := glo_ok KX G (sFact c 16)
  cl_Form := cls_ok (sFact c 17)
  na_Form_row := noat_ok (sFact c 18)
  d_Form_init := sDef c 6 (d := dd_Form_init) rfl
  mk_Form := mkr_ok (sFact c 19)
  d_Form_parts := sDef c 7 (d := dd_Form_parts) rfl
  me_Form_parts := meth_ok (sFact c 20)
  ow_Form := sFact c 21
  ki_Form_Form := kit_ok (sFact c 22)
  ic_Form := insC_ok (cls_ok (sFact c 17)) (sFact c 23)
  d_Form_eq := sDef c 8 (d := dd_Form_eq) rfl
  me_Form_eq := meth_ok (sFact c 24)
  ne_Form := ne_ok (sFact c 25)
  nt_Form := nt_ok (sFact c 26)
  d_law_same := sDef c 9 (d := dd_law_same) rfl
  d_form_of := sDef c 10 (d := dd_form_of) rfl
  m_form_of := glo_ok KX G (sFact c 27)
  d_parts_of := sDef c 11 (d := dd_parts_of) rfl
  m_parts_of := glo_ok KX G (sFact c 28)
  d_Form_add := sDef c 12 (d := dd_Form_add) rfl
  me_Form_add := meth_ok (sFact c 29)
  sf_Form := self_ok (sFact c 30)
  m_law_same := glo_ok KX G (sFact c 31)
  d_Form_neg := sDef c 13 (d := dd_Form_neg) rfl
  me_Form_neg := meth_ok (sFact c 32)
  d_Form_sub := sDef c 14 (d := dd_Form_sub) rfl
  me_Form_sub := meth_ok (sFact c 33)
  on_Form_add := opN_ok (sFact c 34)
  on_Form_sub := opN_ok (sFact c 35)
  d_Form_mul := sDef c 15 (d := dd_Form_mul) rfl
  me_Form_mul := meth_ok (sFact c 36)
  on_Form_mul := opN_ok (sFact c 37)
  d_Form_call := sDef c 16 (d := dd_Form_call) rfl
  co_Form := callO_ok (sFact c 38)
  d_law_right := sDef c 17 (d := dd_law_right) rfl
  m_law_right := glo_ok KX G (sFact c 39)
  d_law := sDef c 18 (d := dd_law) rfl
  m_law := glo_ok KX G (sFact c 40)
end Law
namespace Law
open PySem PySem.Spec PyProof.Rows L2 Sh He
def loose0 : List Str := ["_wall", "LineError", "NoForm", "NoDistance", "NotWhole", "is_whole", "common_divisor", "Form", "form_of", "parts_of", "_law_pot", "_law_dip", "_law_number", "_law_form", "_law_same", "_law_right"]
def loose : List Str := loose0
abbrev R : PySem.W.OpenRow := PySem.W.OpenLaw.row PySem.Challenge.rw_roundline_k41_whole_sums_of_forms
abbrev hk : PySem.W.Hook := hookS 5 fx fn
def ob (s : PySem.W.SharedT) : AlS := obsSG 5 fx fn (HandSHeadRun.getT s)
theorem ob_eq (s : PySem.W.SharedT) : ob s = hk.obs s.abs := obsSG_eq (HandSHeadRun.getT_eq s)
theorem run (w : World) : HandSHeadRun.RunEq R (PySem.W.view R.prog [21]) hk ob 4000 loose w := by
  intro os
  kernel_rfl
end Law
open PySem PySem.W PySem.Calls PyProof.Rows
theorem PySem.Challenge.cw_roundline_k41_whole_sums_of_forms_holds : PySem.Challenge.rw_roundline_k41_whole_sums_of_forms.Holds := by
  w_on; o_law
  refine HandSHeadRun.head_any (r := OpenLaw.row PySem.Challenge.rw_roundline_k41_whole_sums_of_forms) (q := view (OpenLaw.row PySem.Challenge.rw_roundline_k41_whole_sums_of_forms).prog [21]) (H := Law.hk) (ob := Law.ob) (M := 4000) (loose := Law.loose) (d := HandSHeadRun.topDef (OpenLaw.row PySem.Challenge.rw_roundline_k41_whole_sums_of_forms).prog 21) (kwd := []) Law.ob_eq
    (by kernel_rfl) (fun s => by kernel_rfl) Law.run (by kernel_rfl) (by kernel_rfl) (by kernel_rfl) (by rfl) (by first | assumption | decide +kernel) (by decide +kernel) ⟨rfl, rfl, rfl, rfl, rfl, by decide +kernel⟩ ?hw ?hc
  case hw => w_witness2
  case hc =>
    refine L2.walk_ofE (l := PySem.Challenge.rw_roundline_k41_whole_sums_of_forms) (n := 63) (k := 9) (x := "_law_script") (CX := L2.CX0) rfl (by decide) (by kernel_rfl) ⟨rfl, by decide, by decide⟩ ?F (fun _ _ _ _ z => z)
    intro w mg fa h Y G hmg0
    obtain ⟨K, KX, c⟩ := Y
    have T : Law.Txt K mg := Law.txt KX G c
    have hmg : mg ("law" : PySem.Str) = some (.ref fa) := by
      have e : (HandSHeadRun.topDef (OpenLaw.row PySem.Challenge.rw_roundline_k41_whole_sums_of_forms).prog 21).name = ("law" : PySem.Str) := by kernel_rfl
      rw [← e]
      exact hmg0
    have e := hmg.symm.trans T.m_law
    cases e
    obtain ⟨fd, hb, hF⟩ := Sh.law_facts (P := (PySem.Challenge.rw_roundline_k41_whole_sums_of_forms).prog) (w := w) (mg := mg) T.d_law Law.sc_law (fun base => Law.bd_law T) Law.law_true (fun _ _ _ _ _ _ us hl => match us, hl with | [_], _ => rfl)
    exact ⟨K, fd, Sh.spLaw K, KX, hb, fun H a ns hl _ hS => ⟨a, ns, rfl, hS, hl, fun _ => rfl⟩, fun base _ _ => hF base⟩
