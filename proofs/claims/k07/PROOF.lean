import PyProof.Rows.All
import Wide.All
import OpenK.AllK
import Wide.FinOn
import HandS.ForMost
import HandS.Exc
import HandS.TryOnly
import HandS.TryMany
import HandS.ExcOwn
import HandS.WordsExc
import HandS.IsInst
import HandS.Flow
import HandS.Wide
import HandS.TupAny
import KE.DataEq
import HandS.CallSlots
import HandS.Defaults
import HandS.SortInts
import HandS.Style
import HandS.ExcIs
import HandS.ExcField
import HandS.ExcInit
import HandS.Head0
import HandS.Head1
import HandS.Head2
import HandS.HeadEnd
import HandS.HeadHook1
import HandS.HeadHook2
import HandS.Head3
import KE.KStateDown
import KE.KOpsOwn
import HandS.SlotsOwn
import HandS.Star
import HandS.RaiseMore
import HandS.FStr
import HandS.Zip
import KE.GoesEnum
import HandS.TupMul
import OpenK.KMeth
import HandS.NoneIn
import HandS.Small
import HandS.Iter
import KE.DatumOrd
import HandS.SortKw
import KE.SortData
import HandS.Strs
import PyProof.TupleOfSeq
import KE.KItemsList
import HandS.DictTup
import HandS.Text
import HandS.List
import HandS.Conv
import PyProof.DictValues
import PyProof.DictWalks
import PyProof.DictItemsLoops
import PyProof.SeqRoads
import HandS.SetFor
import HandS.Property
import KE.KDictSum
import HandS.DictComp
import PyProof.StrOps2
import PyProof.FitsStr
import HandS.ListEq
import HandS.DeepEq
import KE.KEqNest
import HandS.WideBits
import PySem.Challenge.RW_roundline_k07_counted_and_told_by_number
set_option Elab.async false
set_option linter.all false
set_option maxRecDepth 100000
set_option maxHeartbeats 4000000
set_option exponentiation.threshold 5000
/-! Sh: a program as a plain Lean function over data by value and a store of what may change. Part A: data, store, worlds. -/
namespace Sh
open PySem L2

/-- the program's classes by number: name, attributes in the order in which they are first stored -/
def ctab : List (Str × List Str) := [("Form", ["row"]), ("Plainest", ["period", "flags", "flipped", "below"]), ("Distances", ["plain"]), ("Plan", ["kept"]), ("LineWork", ["half", "stand", "hung", "lengths"]),
  ("Story", ["remainder", "stand", "hung"]), ("Line", ["length", "work", "done", "earlier", "marks"]), ("Desk", ["sheet", "shelf", "past"])]
def cName (c : Nat) : Str := (ctab.getD c ("", [])).1
def cFlds (c : Nat) : List Str := (ctab.getD c ("", [])).2
/-- the errors by number: name, the field -/
def xtab : List (Str × Str) := [("LineError", ""), ("NoForm", ""), ("NoDistance", ""), ("NoModulus", ""), ("NoClasses", ""), ("NoChanged", ""), ("NoLimit", ""), ("NoNumber", ""), ("NoTold", ""), ("NoWindow", ""), ("NoThing", ""),
  ("TooLong", ""), ("NoPlans", ""), ("NotFinite", ""), ("NothingToUndo", ""), ("NoName", ""), ("NoOrder", ""), ("NoRoom", ""), ("NotWhole", "number"), ("NoDeed", "index"), ("NoSighting", "index"), ("NoMark", "name"), ("NoText", "line")]
def xName (c : Nat) : Str := (xtab.getD c ("", "")).1
def xFld (c : Nat) : Str := (xtab.getD c ("", "")).2

/-- data by value; loc: the n-th thing of the store; scr: the script -/
inductive D where
  | non | bl (b : Bool) | int (i : Int) | str (x : Str)
  | tup (l : List D) | lst (l : List D)
  | ins (c : Nat) (l : List D)
  | loc (n : Nat)
  | scr (l : List Int)
  | edict
  deriving Inhabited
/-- what may change -/
inductive SO where
  | lst (l : List D)
  | dict (l : List (Key × D))
  | ins (c : Nat) (l : List D)
  | lock (l : List (Key × D)) (o : Obj) (kvs : List (Key × V))
abbrev Sto := List SO
abbrev Sg := List (Option D)
/-- a result: a value, an exception (its class, its fields), or nothing that is known -/
inductive Res (α : Type) where
  | ok (a : α) (st : Sto)
  | exc (c : Nat) (o : Option D) (st : Sto)
  | bad
inductive Flw where
  | nx (sg : Sg) (st : Sto)
  | ret (d : D) (st : Sto)
  | brk (sg : Sg) (st : Sto)
  | cnt (sg : Sg) (st : Sto)
  | exc (c : Nat) (o : Option D) (sg : Sg) (st : Sto)
  | bad
abbrev EF := Sg → Sto → Res D
abbrev TF := Sg → Sto → Res Bool
abbrev AF := Sg → Sto → Res (List D)
abbrev SF := Sg → Sto → Flw
abbrev FF := List D → Sto → Res D
def Res.bind {α β : Type} : Res α → (α → Sto → Res β) → Res β
  | .ok a st, k => k a st
  | .exc c fs st, _ => .exc c fs st
  | .bad, _ => .bad
@[simp] theorem Res.bind_ok {α β : Type} (a : α) (st : Sto) (k : α → Sto → Res β) : (Res.ok a st).bind k = k a st := rfl
@[simp] theorem Res.bind_exc {α β : Type} (c : Nat) (o : Option D) (st : Sto) (k : α → Sto → Res β) : (Res.exc c o st : Res α).bind k = .exc c o st := rfl
@[simp] theorem Res.bind_bad {α β : Type} (k : α → Sto → Res β) : (Res.bad : Res α).bind k = .bad := rfl
theorem Res.bind_cg {α β : Type} {x y : Res α} {k : α → Sto → Res β} (h : x = y) : x.bind k = y.bind k := by rw [h]

/-- a world: where the store's things lie, what is frozen, the heap -/
structure Hw where
  r : List Addr
  g : Hp
  h : Hp

section
variable (K : PySem.W.Frag) (mg : Str → Option Value)
mutual
inductive Rep (r : List Addr) (G : Hp) : D → V → Prop
  | non : Rep r G .non .non
  | bl (b : Bool) : Rep r G (.bl b) (.bl b)
  | int (i : Int) : Rep r G (.int i) (.int i)
  | str (x : Str) : Rep r G (.str x) (.str x)
  | tup {l : List D} {vs : List V} {a : Addr} : SqT K G a vs → Reps r G l vs → Rep r G (.tup l) (.ref a)
  | lst {l : List D} {vs : List V} {a : Addr} : G a = some (.lst vs) → Reps r G l vs → Rep r G (.lst l) (.ref a)
  | ins {c : Nat} {l : List D} {C a dx : Addr} {fs : List (Str × V)} : mg (cName c) = some (.ref C) → G a = some (.ins C dx fs) → fs.map (·.1) = (cFlds c).take l.length → Reps r G l (fs.map (·.2)) → Rep r G (.ins c l) (.ref a)
  | loc {n : Nat} {a : Addr} : r[n]? = some a → Rep r G (.loc n) (.ref a)
  | scr {l : List Int} {a : Addr} : SqL K G a (l.map V.int) → Rep r G (.scr l) (.ref a)
  | edict {a : Addr} : G a = some (.dK []) → Rep r G .edict (.ref a)
inductive Reps (r : List Addr) (G : Hp) : List D → List V → Prop
  | nil : Reps r G [] []
  | cons {d : D} {v : V} {l : List D} {vs : List V} : Rep r G d v → Reps r G l vs → Reps r G (d :: l) (v :: vs)
end
/-- a thing of the store at a -/
def SRep (r : List Addr) (G H : Hp) (a : Addr) : SO → Prop
  | .lst l => ∃ vs, H a = some (.lst vs) ∧ Reps K mg r G l vs
  | .dict l => ∃ kvs, H a = some (.dK kvs) ∧ kvs.map (·.1) = l.map (·.1) ∧ Reps K mg r G (l.map (·.2)) (kvs.map (·.2))
  | .ins c l => ∃ C dx fs, mg (cName c) = some (.ref C) ∧ H a = some (.ins C dx fs) ∧ fs.map (·.1) = (cFlds c).take l.length ∧ Reps K mg r G l (fs.map (·.2))
  | .lock l o kvs => H a = some (.frz o (.dK kvs)) ∧ kvs.map (·.1) = l.map (·.1) ∧ Reps K mg r G (l.map (·.2)) (kvs.map (·.2))
structure Rel (m : Hw) (st : Sto) : Prop where
  sub : ∀ a o, m.g a = some o → m.h a = some o
  len : m.r.length = st.length
  nd : m.r.Nodup
  off : ∀ a ∈ m.r, m.g a = none
  obj : ∀ (n : Nat) (a : Addr) (so : SO), m.r[n]? = some a → st[n]? = some so → SRep K mg m.r m.g m.h a so
end
structure Ext (m m' : Hw) : Prop where
  pre : ∃ t, m'.r = m.r ++ t
  g : ∀ a o, m.g a = some o → m'.g a = some o
  fr : ∀ a o, m.h a = some o → a ∉ m.r → m'.h a = some o ∧ a ∉ m'.r ∧ (m.g a = none → m'.g a = none)
theorem Ext.refl (m : Hw) : Ext m m := ⟨⟨[], by simp⟩, fun _ _ h => h, fun _ _ h n => ⟨h, n, fun z => z⟩⟩
theorem Ext.trans {m m1 m2 : Hw} (a : Ext m m1) (b : Ext m1 m2) : Ext m m2 := by
  obtain ⟨t, ht⟩ := a.pre
  obtain ⟨u, hu⟩ := b.pre
  refine ⟨⟨t ++ u, by rw [hu, ht, List.append_assoc]⟩, fun x o h => b.g x o (a.g x o h), fun x o h n => ?_⟩
  obtain ⟨h1, n1, g1⟩ := a.fr x o h n
  obtain ⟨h2, n2, g2⟩ := b.fr x o h1 n1
  exact ⟨h2, n2, fun z => g2 (g1 z)⟩
theorem Ext.at_ {m m' : Hw} (e : Ext m m') {n : Nat} {a : Addr} (h : m.r[n]? = some a) : m'.r[n]? = some a := by
  obtain ⟨t, ht⟩ := e.pre
  rw [ht, List.getElem?_append_left (List.getElem?_eq_some_iff.mp h).1]
  exact h
section
variable {K : PySem.W.Frag} {mg : Str → Option Value}
theorem sqT_mono {G G' : Hp} {a : Addr} {xs : List V} (e : ∀ a o, G a = some o → G' a = some o) (h : SqT K G a xs) : SqT K G' a xs := by
  rcases h with (h | ⟨o, h⟩) | h
  · exact .inl (.inl (e _ _ h))
  · exact .inl (.inr ⟨o, e _ _ h⟩)
  · exact .inr h
theorem sqL_mono {G G' : Hp} {a : Addr} {xs : List V} (e : ∀ a o, G a = some o → G' a = some o) (h : SqL K G a xs) : SqL K G' a xs := by
  rcases h with (h | ⟨o, h⟩) | h
  · exact .inl (.inl (e _ _ h))
  · exact .inl (.inr ⟨o, e _ _ h⟩)
  · exact .inr h
mutual
theorem Rep.mono' {r r' : List Addr} {G G' : Hp} (er : ∀ (n : Nat) (a : Addr), r[n]? = some a → r'[n]? = some a) (eg : ∀ a o, G a = some o → G' a = some o) : ∀ (d : D) (v : V), Rep K mg r G d v → Rep K mg r' G' d v
  | .non, _, h => by cases h; exact .non
  | .bl b, _, h => by cases h; exact .bl b
  | .int i, _, h => by cases h; exact .int i
  | .str x, _, h => by cases h; exact .str x
  | .tup l, _, h => by
    cases h with
    | tup h1 h2 => exact .tup (sqT_mono eg h1) (Reps.mono' er eg l _ h2)
  | .lst l, _, h => by
    cases h with
    | lst h1 h2 => exact .lst (eg _ _ h1) (Reps.mono' er eg l _ h2)
  | .ins c l, _, h => by
    cases h with
    | ins h1 h2 h3 h4 => exact .ins h1 (eg _ _ h2) h3 (Reps.mono' er eg l _ h4)
  | .loc n, _, h => by
    cases h with
    | loc h1 => exact .loc (er _ _ h1)
  | .scr l, _, h => by
    cases h with
    | scr h1 => exact .scr (sqL_mono eg h1)
  | .edict, _, h => by
    cases h with
    | edict h1 => exact .edict (eg _ _ h1)
theorem Reps.mono' {r r' : List Addr} {G G' : Hp} (er : ∀ (n : Nat) (a : Addr), r[n]? = some a → r'[n]? = some a) (eg : ∀ a o, G a = some o → G' a = some o) : ∀ (l : List D) (vs : List V), Reps K mg r G l vs → Reps K mg r' G' l vs
  | [], _, h => by cases h; exact .nil
  | d :: l, _, h => by
    cases h with
    | cons h1 h2 => exact .cons (Rep.mono' er eg d _ h1) (Reps.mono' er eg l _ h2)
end
theorem Rep.mono {m m' : Hw} (e : Ext m m') {d : D} {v : V} (h : Rep K mg m.r m.g d v) : Rep K mg m'.r m'.g d v := Rep.mono' (fun _ _ => e.at_) e.g d v h
theorem Reps.mono {m m' : Hw} (e : Ext m m') {l : List D} {vs : List V} (h : Reps K mg m.r m.g l vs) : Reps K mg m'.r m'.g l vs := Reps.mono' (fun _ _ => e.at_) e.g l vs h
theorem Reps.length {r : List Addr} {G : Hp} : ∀ {l : List D} {vs : List V}, Reps K mg r G l vs → l.length = vs.length
  | [], _, h => by cases h; rfl
  | _ :: l, _, h => by
    cases h with
    | cons h1 h2 => simp [Reps.length h2]
theorem Reps.get {r : List Addr} {G : Hp} : ∀ {l : List D} {vs : List V} {i : Nat} {d : D}, Reps K mg r G l vs → l[i]? = some d → ∃ v, vs[i]? = some v ∧ Rep K mg r G d v
  | [], _, _, _, h, e => by simp at e
  | x :: l, _, 0, d, h, e => by
    cases h with
    | cons h1 h2 => simp at e; subst e; exact ⟨_, rfl, h1⟩
  | x :: l, _, i + 1, d, h, e => by
    cases h with
    | cons h1 h2 =>
      obtain ⟨v, a, b⟩ := Reps.get (i := i) h2 (by simpa using e)
      exact ⟨v, by simpa using a, b⟩
theorem Reps.get' {r : List Addr} {G : Hp} : ∀ {l : List D} {vs : List V} {i : Nat} {v : V}, Reps K mg r G l vs → vs[i]? = some v → ∃ d, l[i]? = some d ∧ Rep K mg r G d v
  | [], _, _, _, h, e => by cases h; simp at e
  | x :: l, _, 0, d, h, e => by
    cases h with
    | cons h1 h2 => simp at e; subst e; exact ⟨_, rfl, h1⟩
  | x :: l, _, i + 1, d, h, e => by
    cases h with
    | cons h1 h2 =>
      obtain ⟨v, a, b⟩ := Reps.get' (i := i) h2 (by simpa using e)
      exact ⟨v, by simpa using a, b⟩
theorem Reps.append {r : List Addr} {G : Hp} : ∀ {l l' : List D} {vs vs' : List V}, Reps K mg r G l vs → Reps K mg r G l' vs' → Reps K mg r G (l ++ l') (vs ++ vs')
  | [], _, _, _, h, h' => by cases h; exact h'
  | x :: l, _, _, _, h, h' => by
    cases h with
    | cons h1 h2 => exact .cons h1 (Reps.append h2 h')
theorem Reps.one {r : List Addr} {G : Hp} {d : D} {v : V} (h : Rep K mg r G d v) : Reps K mg r G [d] [v] := .cons h .nil
theorem Reps.take {r : List Addr} {G : Hp} : ∀ {l : List D} {vs : List V} (n : Nat), Reps K mg r G l vs → Reps K mg r G (l.take n) (vs.take n)
  | _, _, 0, h => .nil
  | [], _, n + 1, h => by cases h; exact .nil
  | x :: l, _, n + 1, h => by
    cases h with
    | cons h1 h2 => exact .cons h1 (Reps.take n h2)
theorem Reps.drop {r : List Addr} {G : Hp} : ∀ {l : List D} {vs : List V} (n : Nat), Reps K mg r G l vs → Reps K mg r G (l.drop n) (vs.drop n)
  | _, _, 0, h => h
  | [], _, n + 1, h => by cases h; exact .nil
  | x :: l, _, n + 1, h => by
    cases h with
    | cons h1 h2 => exact Reps.drop n h2
theorem Reps.set {r : List Addr} {G : Hp} {d : D} {v : V} (hd : Rep K mg r G d v) : ∀ {l : List D} {vs : List V} (n : Nat), Reps K mg r G l vs → Reps K mg r G (l.set n d) (vs.set n v)
  | [], _, n, h => by cases h; exact .nil
  | x :: l, _, 0, h => by
    cases h with
    | cons h1 h2 => exact .cons hd h2
  | x :: l, _, n + 1, h => by
    cases h with
    | cons h1 h2 => exact .cons h1 (Reps.set hd n h2)

/-! exceptions: the class, and the own dict with one field, frozen -/
def XRep (K : PySem.W.Frag) (mg : Str → Option Value) (m : Hw) (c : Nat) (o : Option D) (cls : Value) (dx : Option Addr) : Prop :=
  ∃ C, mg (xName c) = some (.ref C) ∧ cls = .ref C ∧ match o with
    | none => dx = none
    | some d => ∃ a v, dx = some a ∧ m.g a = some (.xd [(xFld c, v)]) ∧ Rep K mg m.r m.g d v
theorem XRep.mono {m m' : Hw} (e : Ext m m') {c : Nat} {o : Option D} {cls : Value} {dx : Option Addr} (h : XRep K mg m c o cls dx) : XRep K mg m' c o cls dx := by
  obtain ⟨C, h1, h2, h3⟩ := h
  refine ⟨C, h1, h2, ?_⟩
  cases o with
  | none => exact h3
  | some d =>
    obtain ⟨a, v, q1, q2, q3⟩ := h3
    exact ⟨a, v, q1, e.g _ _ q2, q3.mono e⟩

/-! the slots -/
/-- the wish about errors; the error that is held, if any -/
structure Ex where
  i : Nat
  a : Addr
  cls : Value
  d : Option Addr
  c : Nat
  o : Option D
structure We where
  w : WX
  e : Option Ex
/-- a slot that is none by value may hold the error that a suite holds -/
def SgRep (K : PySem.W.Frag) (mg : Str → Option Value) (e : Option Ex) (m : Hw) (sg : Sg) (σ : St) : Prop := sg.length = σ.length ∧ (∀ (i : Nat) (d : D), sg[i]? = some (some d) → ∃ v, σ[i]? = some (some v) ∧ Rep K mg m.r m.g d v) ∧
  ∀ y, e = some y → sg[y.i]? = some none → σ[y.i]? = some (some (.ref y.a)) ∧ XRep K mg m y.c y.o y.cls y.d
variable {x : Option Ex}
theorem SgRep.mono {m m' : Hw} (e : Ext m m') {sg : Sg} {σ : St} (h : SgRep K mg x m sg σ) : SgRep K mg x m' sg σ := ⟨h.1, fun i d q => let ⟨v, a, b⟩ := h.2.1 i d q; ⟨v, a, b.mono e⟩, fun y q z => let ⟨a, b⟩ := h.2.2 y q z; ⟨a, b.mono e⟩⟩
theorem SgRep.set {m : Hw} {sg : Sg} {σ : St} (h : SgRep K mg x m sg σ) (i : Nat) {d : D} {v : V} (r : Rep K mg m.r m.g d v) : SgRep K mg x m (sg.set i (some d)) (σ.set i (some v)) := by
  refine ⟨by simpa using h.1, fun j d' q => ?_, fun y hy q => ?_⟩
  · by_cases e : i = j
    · subst e
      by_cases hl : i < sg.length
      · rw [List.getElem?_set_self hl] at q
        cases q
        exact ⟨v, by rw [List.getElem?_set_self (by rw [← h.1]; exact hl)], r⟩
      · rw [List.getElem?_eq_none (by simpa using hl)] at q; cases q
    · rw [List.getElem?_set_ne e] at q ⊢
      exact h.2.1 j d' q
  · by_cases e : i = y.i
    · rw [e] at q
      by_cases hl : y.i < sg.length
      · rw [List.getElem?_set_self hl] at q; cases q
      · rw [List.getElem?_eq_none (by simpa using hl)] at q; cases q
    · rw [List.getElem?_set_ne e] at q ⊢
      exact h.2.2 y hy q
theorem SgRep.held {y : Ex} {m : Hw} {sg : Sg} {σ : St} (h : SgRep K mg none m sg σ) (r : XRep K mg m y.c y.o y.cls y.d) : SgRep K mg (some y) m (sg.set y.i none) (σ.set y.i (some (.ref y.a))) := by
  refine ⟨by simpa using h.1, fun j d' q => ?_, fun z hz q => ?_⟩
  · by_cases e : y.i = j
    · subst e
      by_cases hl : y.i < sg.length
      · rw [List.getElem?_set_self hl] at q; cases q
      · rw [List.getElem?_eq_none (by simpa using hl)] at q; cases q
    · rw [List.getElem?_set_ne e] at q ⊢
      exact h.2.1 j d' q
  · cases hz
    have hl : y.i < sg.length := by
      rcases Nat.lt_or_ge y.i sg.length with z | z
      · exact z
      · rw [List.getElem?_eq_none (by simpa using z)] at q; cases q
    exact ⟨by rw [List.getElem?_set_self (by rw [← h.1]; exact hl)], r⟩
/-- the held error's slot is emptied -/
theorem SgRep.unheld {y : Ex} {m : Hw} {sg : Sg} {σ : St} (h : SgRep K mg (some y) m sg σ) : SgRep K mg none m (sg.set y.i none) (σ.set y.i none) := by
  refine ⟨by simpa using h.1, fun j d' q => ?_, fun z hz _ => nomatch hz⟩
  by_cases e : y.i = j
  · subst e
    by_cases hl : y.i < sg.length
    · rw [List.getElem?_set_self hl] at q; cases q
    · rw [List.getElem?_eq_none (by simpa using hl)] at q; cases q
  · rw [List.getElem?_set_ne e] at q ⊢
    exact h.2.1 j d' q
theorem SgRep.unset {m : Hw} {sg : Sg} {σ : St} (h : SgRep K mg x m sg σ) (i : Nat) (hi : ∀ y, x = some y → y.i ≠ i) : SgRep K mg x m (sg.set i none) (σ.set i none) := by
  refine ⟨by simpa using h.1, fun j d' q => ?_, fun y hy q => ?_⟩
  · by_cases e : i = j
    · subst e
      by_cases hl : i < sg.length
      · rw [List.getElem?_set_self hl] at q; cases q
      · rw [List.getElem?_eq_none (by simpa using hl)] at q; cases q
    · rw [List.getElem?_set_ne e] at q ⊢
      exact h.2.1 j d' q
  · have e : i ≠ y.i := fun z => hi y hy z.symm
    rw [List.getElem?_set_ne e] at q ⊢
    exact h.2.2 y hy q

/-! what is wanted behind -/
def Post {α β : Type} (K : PySem.W.Frag) (mg : Str → Option Value) (W : WX) (m : Hw) (σ : St) (R : Hw → α → β → Prop) (Q : β → Hp → Prop) : Res α → Prop
  | .ok a st => ∀ m' v, Ext m m' → Rel K mg m' st → R m' a v → Q v m'.h
  | .exc c fs st => ∀ m' cls dx, Ext m m' → Rel K mg m' st → XRep K mg m' c fs cls dx → W cls dx σ m'.h
  | .bad => False
abbrev RD (K : PySem.W.Frag) (mg : Str → Option Value) : Hw → D → V → Prop := fun m d v => Rep K mg m.r m.g d v
abbrev RDs (K : PySem.W.Frag) (mg : Str → Option Value) : Hw → List D → List V → Prop := fun m d v => Reps K mg m.r m.g d v
abbrev RB : Hw → Bool → Bool → Prop := fun _ a b => a = b
section
variable {α β γ δ : Type} {W : WX} {m m1 : Hw} {σ : St} {R : Hw → α → β → Prop} {R' : Hw → γ → δ → Prop} {Q : δ → Hp → Prop} {Q1 : β → Hp → Prop} {x : Res α} {k : α → Sto → Res γ}
theorem Post.mono {y : Res γ} (h : Post K mg W m σ R' Q y) (e : Ext m m1) : Post K mg W m1 σ R' Q y := by
  cases y with
  | ok a st => exact fun m' v e' r q => h m' v (e.trans e') r q
  | exc c fs st => exact fun m' cls dx e' r q => h m' cls dx (e.trans e') r q
  | bad => exact h
theorem Post.bindc (hp : Post K mg W m σ R' Q (x.bind k)) (h : ∀ m1 a v st1, Ext m m1 → Rel K mg m1 st1 → R m1 a v → Post K mg W m1 σ R' Q (k a st1) → Q1 v m1.h) : Post K mg W m σ R Q1 x := by
  cases x with
  | ok a st => exact fun m' v e r q => h m' a v st e r q (Post.mono hp e)
  | exc c fs st => exact hp
  | bad => exact hp
theorem Post.okc {a : γ} {st : Sto} {v : δ} (hp : Post K mg W m σ R' Q (.ok a st)) (r : Rel K mg m st) (q : R' m a v) : Q v m.h := hp m v (Ext.refl m) r q
end
def TOf {α β : Type} (K : PySem.W.Frag) (mg : Str → Option Value) (W : We) (R : Hw → α → β → Prop) (f : Sg → Sto → Res α) : St → Hp → (β → Hp → Prop) → Prop := fun σ H Q =>
  ∃ m sg st, m.h = H ∧ Rel K mg m st ∧ SgRep K mg W.e m sg σ ∧ Post K mg W.w m σ R Q (f sg st)
def PostS (K : PySem.W.Frag) (mg : Str → Option Value) (W : We) (m : Hw) (D : Ends) : Flw → Prop
  | .nx sg st => ∀ m' σ, Ext m m' → Rel K mg m' st → SgRep K mg W.e m' sg σ → D.nx σ m'.h
  | .ret d st => ∀ m' v, Ext m m' → Rel K mg m' st → Rep K mg m'.r m'.g d v → D.rt v m'.h
  | .brk sg st => ∀ m' σ, Ext m m' → Rel K mg m' st → SgRep K mg W.e m' sg σ → D.bk σ m'.h
  | .cnt sg st => ∀ m' σ, Ext m m' → Rel K mg m' st → SgRep K mg W.e m' sg σ → D.ct σ m'.h
  | .exc c fs sg st => ∀ m' σ cls dx, Ext m m' → Rel K mg m' st → SgRep K mg W.e m' sg σ → XRep K mg m' c fs cls dx → W.w cls dx σ m'.h
  | .bad => False
theorem PostS.mono {W : We} {m m1 : Hw} {D : Ends} {y : Flw} (h : PostS K mg W m D y) (e : Ext m m1) : PostS K mg W m1 D y := by
  cases y with
  | nx sg st => exact fun m' v e' r q => h m' v (e.trans e') r q
  | ret d st => exact fun m' v e' r q => h m' v (e.trans e') r q
  | brk sg st => exact fun m' v e' r q => h m' v (e.trans e') r q
  | cnt sg st => exact fun m' v e' r q => h m' v (e.trans e') r q
  | exc c fs sg st => exact fun m' v cls dx e' r q => h m' v cls dx (e.trans e') r q
  | bad => exact h
def SOf (K : PySem.W.Frag) (mg : Str → Option Value) (W : We) (g : SF) : TS := fun D σ H => ∃ m sg st, m.h = H ∧ Rel K mg m st ∧ SgRep K mg W.e m sg σ ∧ PostS K mg W m D (g sg st)
end

/-! judgements -/
def SE (X : Cx) (W : We) (e : Expr) (f : EF) : Prop := PE X e (TOf X.K X.mg W (RD X.K X.mg) f)
def SB (X : Cx) (W : We) (e : Expr) (f : TF) : Prop := PT X e (TOf X.K X.mg W RB f)
def SA (X : Cx) (W : We) (es : List Expr) (f : AF) : Prop := PA X es (TOf X.K X.mg W (RDs X.K X.mg) f)
def SS (X : Cx) (W : We) (s : Stmt) (g : SF) : Prop := PS X s (SOf X.K X.mg W g)
def SSs (X : Cx) (W : We) (s : List Stmt) (g : SF) : Prop := PSs X s (SOf X.K X.mg W g)
theorem pe_weak {X : Cx} {e : Expr} {t t' : TE} (h : PE X e t) (i : ∀ σ H Q, t' σ H Q → t σ H Q) : PE X e t' := ⟨fun pins s σ H Q I q => h.run pins s σ H Q I (i σ H Q q)⟩
theorem pt_weak {X : Cx} {e : Expr} {t t' : TT} (h : PT X e t) (i : ∀ σ H Q, t' σ H Q → t σ H Q) : PT X e t' := ⟨fun pins s σ H Q I q => h.run pins s σ H Q I (i σ H Q q)⟩
theorem pa_weak {X : Cx} {e : List Expr} {t t' : TA} (h : PA X e t) (i : ∀ σ H Q, t' σ H Q → t σ H Q) : PA X e t' := ⟨fun pos pins s σ H Q I q => h.run pos pins s σ H Q I (i σ H Q q)⟩
theorem ps_weak {X : Cx} {e : Stmt} {t t' : TS} (h : PS X e t) (i : ∀ D σ H, t' D σ H → t D σ H) : PS X e t' := ⟨fun pins s σ H D I q => h.run pins s σ H D I (i D σ H q)⟩
theorem pss_weak {X : Cx} {e : List Stmt} {t t' : TS} (h : PSs X e t) (i : ∀ D σ H, t' D σ H → t D σ H) : PSs X e t' := ⟨fun pins s σ H D I q => h.run pins s σ H D I (i D σ H q)⟩
end Sh
/-! Part B: what is laid, what is written; expressions. -/
namespace Sh
open PySem L2
section
variable {K : PySem.W.Frag} {mg : Str → Option Value} {m : Hw} {st : Sto}
theorem Rel.live (R : Rel K mg m st) {a : Addr} (h : a ∈ m.r) : ∃ o, m.h a = some o := by
  obtain ⟨n, hn, e⟩ := List.mem_iff_getElem.mp h
  have hs : n < st.length := by rw [← R.len]; exact hn
  have q := R.obj n a st[n] (by rw [List.getElem?_eq_getElem hn, e]) (List.getElem?_eq_getElem hs)
  cases e : st[n] with
  | lst l => rw [e] at q; obtain ⟨vs, q, _⟩ := q; exact ⟨_, q⟩
  | dict l => rw [e] at q; obtain ⟨vs, q, _⟩ := q; exact ⟨_, q⟩
  | ins c l => rw [e] at q; obtain ⟨_, _, _, _, q, _⟩ := q; exact ⟨_, q⟩
  | lock l o kvs => rw [e] at q; exact ⟨_, q.1⟩
theorem Rel.gnone (R : Rel K mg m st) {p : Addr} (h : m.h p = none) : m.g p = none := by
  cases e : m.g p with
  | none => rfl
  | some o => have := R.sub p o e; rw [h] at this; cases this
theorem Rel.fresh (R : Rel K mg m st) {p : Addr} (h : m.h p = none) : p ∉ m.r := fun z => by
  obtain ⟨o, e⟩ := R.live z
  rw [h] at e; cases e
theorem SRep.mono' {r r' : List Addr} {G G' H H' : Hp} {a : Addr} (er : ∀ (n : Nat) (a : Addr), r[n]? = some a → r'[n]? = some a) (eg : ∀ a o, G a = some o → G' a = some o) (eh : ∀ o, H a = some o → H' a = some o) : ∀ {so : SO}, SRep K mg r G H a so → SRep K mg r' G' H' a so
  | .lst l, ⟨vs, h1, h2⟩ => ⟨vs, eh _ h1, Reps.mono' er eg _ _ h2⟩
  | .dict l, ⟨vs, h1, h2, h3⟩ => ⟨vs, eh _ h1, h2, Reps.mono' er eg _ _ h3⟩
  | .ins c l, ⟨C, dx, fs, h1, h2, h3, h4⟩ => ⟨C, dx, fs, h1, eh _ h2, h3, Reps.mono' er eg _ _ h4⟩
  | .lock l o kvs, ⟨h1, h2, h3⟩ => ⟨eh _ h1, h2, Reps.mono' er eg _ _ h3⟩

/-! laid by value -/
def Hw.lay (m : Hw) (p : Addr) (o : HO) : Hw := ⟨m.r, upd m.g p o, upd m.h p o⟩
theorem Ext.lay (R : Rel K mg m st) {p : Addr} {o : HO} (h : m.h p = none) : Ext m (m.lay p o) := by
  refine ⟨⟨[], by simp [Hw.lay]⟩, fun a u e => ?_, fun a u e n => ⟨?_, n, fun z => ?_⟩⟩
  · have : a ≠ p := ne_of_none e (R.gnone h)
    show upd m.g p o a = some u
    rw [upd_ne this]; exact e
  · show upd m.h p o a = some u
    rw [upd_ne (ne_of_none e h)]; exact e
  · show upd m.g p o a = none
    rw [upd_ne (ne_of_none e h)]; exact z
theorem Rel.lay (R : Rel K mg m st) {p : Addr} {o : HO} (h : m.h p = none) : Rel K mg (m.lay p o) st := by
  refine ⟨fun a u e => ?_, R.len, R.nd, fun a z => ?_, fun n a so e1 e2 => ?_⟩
  · show upd m.h p o a = some u
    have e : upd m.g p o a = some u := e
    by_cases q : a = p
    · subst q; rw [upd_same] at e ⊢; exact e
    · rw [upd_ne q] at e ⊢; exact R.sub a u e
  · show upd m.g p o a = none
    have : a ≠ p := fun q => R.fresh h (q ▸ z)
    rw [upd_ne this]; exact R.off a z
  · refine (R.obj n a so e1 e2).mono' (fun _ _ z => z) (Ext.lay R h).g fun u q => ?_
    show upd m.h p o a = some u
    rw [upd_ne (ne_of_none q h)]; exact q
theorem Post.lay {α : Type} {W : We} {σ : St} {R' : Hw → D → V → Prop} {Q : VK} {d : D} {o : HO} (hp : Post K mg W.w m σ R' Q (.ok d st)) (R : Rel K mg m st) (hr : ∀ p, m.h p = none → R' (m.lay p o) d (.ref p)) : ∀ p, m.h p = none → Q (.ref p) (upd m.h p o) := fun p h =>
  hp (m.lay p o) (.ref p) (Ext.lay R h) (R.lay h) (hr p h)
/-! laid as a thing of the store -/
def Hw.new (m : Hw) (p : Addr) (o : HO) : Hw := ⟨m.r ++ [p], m.g, upd m.h p o⟩
theorem Ext.new (R : Rel K mg m st) {p : Addr} {o : HO} (h : m.h p = none) : Ext m (m.new p o) := by
  refine ⟨⟨[p], rfl⟩, fun a u e => e, fun a u e n => ⟨?_, ?_, fun z => z⟩⟩
  · show upd m.h p o a = some u
    rw [upd_ne (ne_of_none e h)]; exact e
  · show a ∉ m.r ++ [p]
    have : a ≠ p := ne_of_none e h
    simp [n, this]
theorem Rel.new (R : Rel K mg m st) {p : Addr} {o : HO} {so : SO} (h : m.h p = none) (q : SRep K mg (m.r ++ [p]) m.g (upd m.h p o) p so) : Rel K mg (m.new p o) (st ++ [so]) := by
  refine ⟨fun a u e => ?_, by simp [Hw.new, R.len], ?_, fun a z => ?_, fun n a so' e1 e2 => ?_⟩
  · show upd m.h p o a = some u
    rw [upd_ne (ne_of_none (R.sub a u e) h)]; exact R.sub a u e
  · show (m.r ++ [p]).Nodup
    rw [List.nodup_append]
    refine ⟨R.nd, by simp, fun a ha b hb e => ?_⟩
    have hb' : b = p := by simpa using hb
    subst e
    exact R.fresh h (hb' ▸ ha)
  · have z' : a ∈ m.r ++ [p] := z
    rcases List.mem_append.mp z' with z' | z'
    · exact R.off a z'
    · have : a = p := by simpa using z'
      rw [this]; exact R.gnone h
  · have e1 : (m.r ++ [p])[n]? = some a := e1
    by_cases hn : n < m.r.length
    · rw [List.getElem?_append_left hn] at e1
      rw [List.getElem?_append_left (by rw [← R.len]; exact hn)] at e2
      refine (R.obj n a so' e1 e2).mono' (fun _ _ z => (Ext.new (o := o) R h).at_ z) (fun _ _ z => z) fun u q => ?_
      show upd m.h p o a = some u
      rw [upd_ne (ne_of_none q h)]; exact q
    · have hl := R.len
      rw [List.getElem?_append_right (by omega)] at e1 e2
      have h0 : n - m.r.length = 0 := by
        cases z : n - m.r.length with
        | zero => rfl
        | succ k => rw [z] at e1; simp at e1
      have h0' : n - st.length = 0 := by omega
      rw [h0] at e1; rw [h0'] at e2
      simp at e1 e2
      subst e1; subst e2
      exact q
/-! a thing of the store is written -/
theorem nodup_ix' {N : List Addr} (hN : N.Nodup) {i j : Nat} {x : Addr} (a : N[i]? = some x) (b : N[j]? = some x) : i = j := by
  obtain ⟨h1, e1⟩ := List.getElem?_eq_some_iff.mp a
  obtain ⟨h2, e2⟩ := List.getElem?_eq_some_iff.mp b
  exact (List.getElem_inj hN).mp (e1.trans e2.symm)
def Hw.put (m : Hw) (p : Addr) (o : HO) : Hw := ⟨m.r, m.g, upd m.h p o⟩
theorem Ext.put {p : Addr} {o : HO} (h : p ∈ m.r) : Ext m (m.put p o) := by
  refine ⟨⟨[], by simp [Hw.put]⟩, fun a u e => e, fun a u e n => ⟨?_, n, fun z => z⟩⟩
  show upd m.h p o a = some u
  have : a ≠ p := fun z => n (z ▸ h)
  rw [upd_ne this]; exact e
theorem Rel.put (R : Rel K mg m st) {n : Nat} {p : Addr} {o : HO} {so : SO} (e : m.r[n]? = some p) (q : SRep K mg m.r m.g (upd m.h p o) p so) : Rel K mg (m.put p o) (st.set n so) := by
  have hm : p ∈ m.r := List.mem_of_getElem? e
  refine ⟨fun a u e => ?_, by simp [Hw.put, R.len], R.nd, R.off, fun i a so' e1 e2 => ?_⟩
  · show upd m.h p o a = some u
    have : a ≠ p := fun z => by have := R.off p hm; rw [← z] at this; rw [show m.g a = some u from e] at this; cases this
    rw [upd_ne this]; exact R.sub a u e
  · have e1 : m.r[i]? = some a := e1
    by_cases hi : i = n
    · subst hi
      rw [e] at e1; cases e1
      have hl : i < st.length := by rw [← R.len]; exact (List.getElem?_eq_some_iff.mp e).1
      rw [List.getElem?_set_self hl] at e2
      cases e2
      exact q
    · rw [List.getElem?_set_ne (Ne.symm hi)] at e2
      have : a ≠ p := fun z => hi (nodup_ix' R.nd e1 (z ▸ e))
      refine (R.obj i a so' e1 e2).mono' (fun _ _ z => z) (fun _ _ z => z) fun u q => ?_
      show upd m.h p o a = some u
      rw [upd_ne this]; exact q
end

/-! expressions -/
section
variable {X : Cx} {W : We} {a b c e : Expr} {fa fb fc f : EF} {pos : Pos}
@[simp] def fVar (i : Nat) : EF := fun sg st => match sg[i]? with
  | some (some d) => .ok d st
  | _ => .bad
@[simp] def fC (d : D) : EF := fun _ st => .ok d st
@[simp] def fBin (sem : D → D → Sto → Res D) (fa fb : EF) : EF := fun sg st => (fa sg st).bind fun x st1 => (fb sg st1).bind fun y st2 => sem x y st2
@[simp] def fUn (sem : D → Sto → Res D) (fa : EF) : EF := fun sg st => (fa sg st).bind fun x st1 => sem x st1
theorem se_var {i : Nat} {x : Str} (h : PE X (.Name x pos) (tVar i)) : SE X W (.Name x pos) (fVar i) := pe_weak h fun σ H Q ⟨m, sg, st, e, rm, rs, hp⟩ => by
  subst e
  unfold fVar at hp
  split at hp
  · rename_i d q
    obtain ⟨v, h1, h2⟩ := rs.2.1 i d q
    exact ⟨v, h1, hp.okc rm h2⟩
  · exact False.elim hp
theorem se_c {d : D} {v : V} (h : PE X e (tC v)) (r : ∀ m st, Rel X.K X.mg m st → Rep X.K X.mg m.r m.g d v) : SE X W e (fC d) := pe_weak h fun σ H Q ⟨m, sg, st, e, rm, rs, hp⟩ => by
  subst e
  exact hp.okc rm (r m st rm)
theorem se_int {i : Int} {j : Nat} : SE X W (.Constant (.int i) j pos) (fC (.int i)) := se_c pe_int fun _ _ _ => .int i
theorem se_bl {i : Bool} {j : Nat} : SE X W (.Constant (.bool i) j pos) (fC (.bl i)) := se_c pe_bl fun _ _ _ => .bl i
theorem se_non {j : Nat} : SE X W (.Constant .none j pos) (fC .non) := se_c pe_non fun _ _ _ => .non
theorem se_str {i : Str} {j : Nat} : SE X W (.Constant (.str i) j pos) (fC (.str i)) := se_c pe_str fun _ _ _ => .str i
/-- what a value-level rule wants of the meaning -/
def Fits2 (X : Cx) (W : We) (r : R2) (sem : D → D → Sto → Res D) : Prop := ∀ (m : Hw) (st : Sto) (σ : St) (x y : D) (v w : V) (Q : VK), Rel X.K X.mg m st → Rep X.K X.mg m.r m.g x v → Rep X.K X.mg m.r m.g y w → Post X.K X.mg W.w m σ (RD X.K X.mg) Q (sem x y st) → r v w m.h Q
def Fits1 (X : Cx) (W : We) (r : V → Hp → VK → Prop) (sem : D → Sto → Res D) : Prop := ∀ (m : Hw) (st : Sto) (σ : St) (x : D) (v : V) (Q : VK), Rel X.K X.mg m st → Rep X.K X.mg m.r m.g x v → Post X.K X.mg W.w m σ (RD X.K X.mg) Q (sem x st) → r v m.h Q
theorem tOp_of {r : R2} {sem : D → D → Sto → Res D} (hs : Fits2 X W r sem) {σ : St} {H : Hp} {Q : VK} (h : TOf X.K X.mg W (RD X.K X.mg) (fBin sem fa fb) σ H Q) : tOp r (TOf X.K X.mg W (RD X.K X.mg) fa) (TOf X.K X.mg W (RD X.K X.mg) fb) σ H Q := by
  obtain ⟨m, sg, st, rfl, rm, rs, hp⟩ := h
  exact ⟨m, sg, st, rfl, rm, rs, hp.bindc fun m1 x v st1 e1 r1 q1 hp1 => ⟨m1, sg, st1, rfl, r1, rs.mono e1, hp1.bindc fun m2 y w st2 e2 r2 q2 hp2 => hs m2 st2 σ x y v w Q r2 (q1.mono e2) q2 hp2⟩⟩
theorem se_bin {op : Operator} {r : R2} {sem : D → D → Sto → Res D} (ho : OpR X (binaryOp op) r) (hs : Fits2 X W r sem) (ha : SE X W a fa) (hb : SE X W b fb) : SE X W (.BinOp a op b pos) (fBin sem fa fb) :=
  pe_weak (pe_op ho ha hb) fun _ _ _ h => tOp_of hs h
theorem se_un {op : UnaryOp} {r : V → Hp → VK → Prop} {sem : D → Sto → Res D} (ho : UnR X (unaryOp op) r) (hs : Fits1 X W r sem) (ha : SE X W a fa) : SE X W (.UnaryOp op a pos) (fUn sem fa) :=
  pe_weak (pe_un ho ha) fun σ H Q ⟨m, sg, st, e, rm, rs, hp⟩ => ⟨m, sg, st, e, rm, rs, hp.bindc fun m1 x v st1 e1 r1 q1 hp1 => hs m1 st1 σ x v Q r1 q1 hp1⟩
theorem se_cmp {op : CmpOp} {r : R2} {sem : D → D → Sto → Res D} (ho : OpR X (compareOp op) r) (hs : Fits2 X W r sem) (ha : SE X W a fa) (hb : SE X W b fb) (hm : behindInMarks op b = false) : SE X W (.Compare a [op] [b] pos) (fBin sem fa fb) :=
  pe_weak (pe_cmpR ho ha hb hm) fun _ _ _ h => tOp_of hs h

/-! tests -/
def dBool : D → Option Bool
  | .bl b => some b
  | _ => none
@[simp] def tOfE (fa : EF) : TF := fun sg st => (fa sg st).bind fun x st1 => match x with
  | .bl b => .ok b st1
  | _ => .bad
/-- a comparison as a test -/
theorem sb_cmp {op : CmpOp} {r : R2} {sem : D → D → Sto → Res D} (ho : OpR X (compareOp op) r) (hs : Fits2 X W r sem) (ha : SE X W a fa) (hb : SE X W b fb) (hm : behindInMarks op b = false) : SB X W (.Compare a [op] [b] pos) (tOfE (fBin sem fa fb)) :=
  pt_weak (pt_cmpR ho ha hb hm) fun σ H Q ⟨m, sg, st, e, rm, rs, hp⟩ => tOp_of (sem := sem) hs ⟨m, sg, st, e, rm, rs, hp.bindc fun m1 x v st1 e1 r1 q1 hp1 => by
    split at hp1
    · cases q1; exact ⟨_, rfl, hp1.okc r1 rfl⟩
    · exact False.elim hp1⟩
/-- any value's truth -/
def dTru : D → Sto → Option Bool
  | .non, _ => some false
  | .bl b, _ => some b
  | .int i, _ => some (i != 0)
  | .str x, _ => if x.length ≤ 16777216 then some ((x.length : Int) != 0) else none
  | .tup l, _ => some !l.isEmpty
  | .lst l, _ => some !l.isEmpty
  | .loc n, st => match st[n]? with
    | some (.lst l) => some !l.isEmpty
    | some (.dict l) => some !l.isEmpty
    | _ => none
  | .edict, _ => some false
  | _, _ => none
theorem tru_of {m : Hw} {st : Sto} {d : D} {v : V} {k : Bool} (rm : Rel X.K X.mg m st) (q : Rep X.K X.mg m.r m.g d v) (e : dTru d st = some k) : TruV X.K v m.h k := by
  have emp : ∀ {l : List D} {vs : List V}, Reps X.K X.mg m.r m.g l vs → (!l.isEmpty) = !vs.isEmpty := fun h => by cases h <;> rfl
  unfold dTru at e
  split at e
  · cases q; exact (Option.some.inj e).symm
  · cases q; exact (Option.some.inj e).symm
  · cases q; exact (Option.some.inj e).symm
  · cases q
    split at e
    · rename_i h
      exact ⟨by rw [sizeLine_eq]; exact h, (Option.some.inj e).symm⟩
    · cases e
  · cases q with
    | tup h1 h2 => exact .inr (.inl ⟨_, sqT_mono rm.sub h1, by rw [← Option.some.inj e]; exact emp h2⟩)
  · cases q with
    | lst h1 h2 => exact .inl ⟨_, .of (rm.sub _ _ h1), by rw [← Option.some.inj e]; exact emp h2⟩
  · cases q with
    | loc h1 =>
      split at e
      · rename_i h2
        obtain ⟨vs, h3, h4⟩ := rm.obj _ _ _ h1 h2
        exact .inl ⟨_, .of h3, by rw [← Option.some.inj e]; exact emp h4⟩
      · rename_i l h2
        obtain ⟨kvs, h3, h4, _⟩ := rm.obj _ _ _ h1 h2
        refine .inr (.inr ⟨_, h3, ?_⟩)
        rw [← Option.some.inj e]
        have : kvs.length = l.length := by have := congrArg List.length h4; simpa using this
        cases l <;> cases kvs <;> simp_all
      · cases e
  · cases q with
    | edict h1 => exact .inr (.inr ⟨_, rm.sub _ _ h1, (Option.some.inj e).symm⟩)
  · cases e
@[simp] def tTru (fa : EF) : TF := fun sg st => (fa sg st).bind fun x st1 => match dTru x st1 with
  | some b => .ok b st1
  | none => .bad
theorem sb_tru (ha : SE X W a fa) (he : ∀ whole, isTrue a X.env whole = (do let v ← whole; standAt a.pos; holding [v] (truthy v))) : SB X W a (tTru fa) :=
  pt_weak (pt_truth ha he) fun σ H Q ⟨m, sg, st, e, rm, rs, hp⟩ => ⟨m, sg, st, e, rm, rs, hp.bindc fun m1 x v st1 e1 r1 q1 hp1 => by
    split at hp1
    · rename_i b h
      exact ⟨b, tru_of r1 q1 h, hp1.okc r1 rfl⟩
    · exact False.elim hp1⟩
def SW (X : Cx) (W : We) (e : Expr) (f : TF) : Prop := PW X e (TOf X.K X.mg W RB f)
theorem pw_weak {X : Cx} {e : Expr} {t t' : TT} (h : PW X e t) (i : ∀ σ H Q, t' σ H Q → t σ H Q) : PW X e t' := ⟨fun wh pins s σ H Q I q => h.run wh pins s σ H Q I (i σ H Q q)⟩
@[simp] def tAnd' (t u : TF) : TF := fun sg st => (t sg st).bind fun b st1 => if b = true then u sg st1 else .ok false st1
@[simp] def tOr' (t u : TF) : TF := fun sg st => (t sg st).bind fun b st1 => if b = true then .ok true st1 else u sg st1
@[simp] def tNot' (t : TF) : TF := fun sg st => (t sg st).bind fun b st1 => .ok (!b) st1
variable {t u : TF} {rest : List Expr}
theorem sw_and1 (h : SB X W a t) : SW X W (.BoolOp .And [a] pos) t := pw_and1 h
theorem sw_or1 (h : SB X W a t) : SW X W (.BoolOp .Or [a] pos) t := pw_or1 h
theorem sw_and (h : SB X W a t) (h2 : SW X W (.BoolOp .And (b :: rest) pos) u) : SW X W (.BoolOp .And (a :: b :: rest) pos) (tAnd' t u) :=
  pw_weak (pw_and h h2) fun σ H Q ⟨m, sg, st, e, rm, rs, hp⟩ => ⟨m, sg, st, e, rm, rs, hp.bindc fun m1 x v st1 e1 r1 q1 hp1 => by
    cases q1
    cases x with
    | true => exact ⟨m1, sg, st1, rfl, r1, rs.mono e1, hp1⟩
    | false => exact hp1.okc r1 rfl⟩
theorem sw_or (h : SB X W a t) (h2 : SW X W (.BoolOp .Or (b :: rest) pos) u) : SW X W (.BoolOp .Or (a :: b :: rest) pos) (tOr' t u) :=
  pw_weak (pw_or h h2) fun σ H Q ⟨m, sg, st, e, rm, rs, hp⟩ => ⟨m, sg, st, e, rm, rs, hp.bindc fun m1 x v st1 e1 r1 q1 hp1 => by
    cases q1
    cases x with
    | false => exact ⟨m1, sg, st1, rfl, r1, rs.mono e1, hp1⟩
    | true => exact hp1.okc r1 rfl⟩
theorem sb_w (h : SW X W a t) : SB X W a t := PW.pt h
theorem sb_not (h : SB X W a t) : SB X W (.UnaryOp .Not a pos) (tNot' t) :=
  pt_weak (pt_not h) fun σ H Q ⟨m, sg, st, e, rm, rs, hp⟩ => ⟨m, sg, st, e, rm, rs, hp.bindc fun m1 x v st1 e1 r1 q1 hp1 => by
    cases q1; exact hp1.okc r1 rfl⟩
@[simp] def fIfE (t : TF) (fa fb : EF) : EF := fun sg st => (t sg st).bind fun b st1 => if b = true then fa sg st1 else fb sg st1
theorem se_if (ht : SB X W c t) (ha : SE X W a fa) (hb : SE X W b fb) : SE X W (.IfExp c a b pos) (fIfE t fa fb) :=
  pe_weak (pe_ifExp ht ha hb) fun σ H Q ⟨m, sg, st, e, rm, rs, hp⟩ => ⟨m, sg, st, e, rm, rs, hp.bindc fun m1 x v st1 e1 r1 q1 hp1 => by
    cases q1
    cases x with
    | true => exact ⟨m1, sg, st1, rfl, r1, rs.mono e1, hp1⟩
    | false => exact ⟨m1, sg, st1, rfl, r1, rs.mono e1, hp1⟩⟩
/-! and, or, not as values, by truth -/
@[simp] def fAnd (fa fb : EF) : EF := fun sg st => (fa sg st).bind fun x st1 => match dTru x st1 with
  | some true => fb sg st1
  | some false => .ok x st1
  | none => .bad
@[simp] def fOr (fa fb : EF) : EF := fun sg st => (fa sg st).bind fun x st1 => match dTru x st1 with
  | some true => .ok x st1
  | some false => fb sg st1
  | none => .bad
@[simp] def fNot (fa : EF) : EF := fun sg st => (fa sg st).bind fun x st1 => match dTru x st1 with
  | some b => .ok (.bl !b) st1
  | none => .bad
theorem se_one {op : BoolOp} (h : SE X W a fa) : SE X W (.BoolOp op [a] pos) fa := pe_one h
theorem se_and (ha : SE X W a fa) (hb : SE X W (.BoolOp .And (b :: rest) pos) fb) : SE X W (.BoolOp .And (a :: b :: rest) pos) (fAnd fa fb) :=
  pe_weak (pe_andT ha hb) fun σ H Q ⟨m, sg, st, e, rm, rs, hp⟩ => ⟨m, sg, st, e, rm, rs, hp.bindc fun m1 x v st1 e1 r1 q1 hp1 => by
    split at hp1
    · rename_i h
      exact ⟨true, tru_of r1 q1 h, iteT ⟨m1, sg, st1, rfl, r1, rs.mono e1, hp1⟩⟩
    · rename_i h
      exact ⟨false, tru_of r1 q1 h, iteF (hp1.okc r1 q1)⟩
    · exact False.elim hp1⟩
theorem se_or (ha : SE X W a fa) (hb : SE X W (.BoolOp .Or (b :: rest) pos) fb) : SE X W (.BoolOp .Or (a :: b :: rest) pos) (fOr fa fb) :=
  pe_weak (pe_orT ha hb) fun σ H Q ⟨m, sg, st, e, rm, rs, hp⟩ => ⟨m, sg, st, e, rm, rs, hp.bindc fun m1 x v st1 e1 r1 q1 hp1 => by
    split at hp1
    · rename_i h
      exact ⟨true, tru_of r1 q1 h, iteT (hp1.okc r1 q1)⟩
    · rename_i h
      exact ⟨false, tru_of r1 q1 h, iteF ⟨m1, sg, st1, rfl, r1, rs.mono e1, hp1⟩⟩
    · exact False.elim hp1⟩
theorem se_not (ha : SE X W a fa) : SE X W (.UnaryOp .Not a pos) (fNot fa) :=
  pe_weak (pe_notT ha) fun σ H Q ⟨m, sg, st, e, rm, rs, hp⟩ => ⟨m, sg, st, e, rm, rs, hp.bindc fun m1 x v st1 e1 r1 q1 hp1 => by
    split at hp1
    · rename_i b h
      exact ⟨b, tru_of r1 q1 h, hp1.okc r1 (.bl _)⟩
    · exact False.elim hp1⟩
/-! argument lists, displays -/
@[simp] def aNil : AF := fun _ st => .ok [] st
@[simp] def aCons (f : EF) (g : AF) : AF := fun sg st => (f sg st).bind fun x st1 => (g sg st1).bind fun l st2 => .ok (x :: l) st2
variable {es : List Expr} {g : AF}
theorem sa_nil : SA X W [] aNil := pa_weak pa_nil fun σ H Q ⟨m, sg, st, e, rm, rs, hp⟩ => by
  subst e; exact hp.okc rm .nil
theorem sa_cons (he : SE X W e f) (hr : SA X W es g) (hs : starEach (e :: es) X.env = (false, eval e X.env) :: starEach es X.env := by rfl) : SA X W (e :: es) (aCons f g) :=
  pa_weak (pa_cons he hr hs) fun σ H Q ⟨m, sg, st, e, rm, rs, hp⟩ => ⟨m, sg, st, e, rm, rs, hp.bindc fun m1 x v st1 e1 r1 q1 hp1 => ⟨m1, sg, st1, rfl, r1, rs.mono e1, hp1.bindc fun m2 l vs st2 e2 r2 q2 hp2 => hp2.okc r2 (.cons (q1.mono e2) q2)⟩⟩
@[simp] def fTup (g : AF) : EF := fun sg st => (g sg st).bind fun l st1 => if l.length ≤ 16777216 then .ok (.tup l) st1 else .bad
@[simp] def fLst (g : AF) : EF := fun sg st => (g sg st).bind fun l st1 => if l.length ≤ 16777216 then .ok (.lst l) st1 else .bad
@[simp] def fNew (g : AF) : EF := fun sg st => (g sg st).bind fun l st1 => if l.length ≤ 16777216 then .ok (.loc st1.length) (st1 ++ [.lst l]) else .bad
theorem le_line {n : Nat} : n ≤ 16777216 ↔ n ≤ sizeLine := by rw [sizeLine_eq]
theorem se_tup {x1} (h : SA X W es g) : SE X W (.Tuple es x1 pos) (fTup g) :=
  pe_weak (pe_tup h) fun σ H Q ⟨m, sg, st, e, rm, rs, hp⟩ => ⟨m, sg, st, e, rm, rs, hp.bindc fun m1 l vs st1 e1 r1 q1 hp1 => by
    split at hp1
    · rename_i hl
      refine ⟨by rw [← q1.length]; exact le_line.mp hl, hp1.lay (α := D) r1 fun p hn => ?_⟩
      exact .tup (.of upd_same) (q1.mono (Ext.lay r1 hn))
    · exact False.elim hp1⟩
theorem se_lst (h : SA X W es g) : SE X W (.List es pos) (fLst g) :=
  pe_weak (pe_lst h) fun σ H Q ⟨m, sg, st, e, rm, rs, hp⟩ => ⟨m, sg, st, e, rm, rs, hp.bindc fun m1 l vs st1 e1 r1 q1 hp1 => by
    split at hp1
    · rename_i hl
      refine ⟨by rw [← q1.length]; exact le_line.mp hl, hp1.lay (α := D) r1 fun p hn => ?_⟩
      exact .lst upd_same (q1.mono (Ext.lay r1 hn))
    · exact False.elim hp1⟩
theorem se_new (h : SA X W es g) : SE X W (.List es pos) (fNew g) :=
  pe_weak (pe_lst h) fun σ H Q ⟨m, sg, st, e, rm, rs, hp⟩ => ⟨m, sg, st, e, rm, rs, hp.bindc fun m1 l vs st1 e1 r1 q1 hp1 => by
    split at hp1
    · rename_i hl
      refine ⟨by rw [← q1.length]; exact le_line.mp hl, fun p hn => ?_⟩
      refine hp1 (m1.new p (.lst vs)) (.ref p) (Ext.new r1 hn) (r1.new hn ⟨vs, upd_same, q1.mono (Ext.new (o := .lst vs) r1 hn)⟩) (.loc ?_)
      show (m1.r ++ [p])[st1.length]? = some p
      rw [← r1.len, List.getElem?_append_right (Nat.le_refl _)]
      simp
    · exact False.elim hp1⟩
end
end Sh
/-! Part C: what the operators mean. -/
namespace Sh
open PySem L2

/-! ints -/
def mulOk (i j : Int) : Prop := i.natAbs.log2 + j.natAbs.log2 < 1000000
instance (i j : Int) : Decidable (mulOk i j) := by unfold mulOk; infer_instance
def divOk (j : Int) : Prop := j.natAbs.log2 < 9000
instance (j : Int) : Decidable (divOk j) := by unfold divOk; infer_instance
def powOk (i j : Int) : Prop := 0 ≤ j ∧ ((i.natAbs.log2 + 1 : Nat) : Int) * j ≤ 2 ^ 27
instance (i j : Int) : Decidable (powOk i j) := by unfold powOk; infer_instance
theorem log2_lt' {n k : Nat} (h : n < 2 ^ k) (hk : 0 < k) : n.log2 < k := PySem.Flt.log2_lt_of hk h
theorem mulOk_of {i j : Int} {a b : Nat} (ha : i.natAbs < 2 ^ a) (hb : j.natAbs < 2 ^ b) (h0 : 0 < a) (h1 : 0 < b) (h : a + b ≤ 1000000) : mulOk i j := by
  have x := log2_lt' ha h0
  have y := log2_lt' hb h1
  unfold mulOk; omega
theorem divOk_of {j : Int} {b : Nat} (hb : j.natAbs < 2 ^ b) (h1 : 0 < b) (h : b ≤ 9000) : divOk j := by
  have y := log2_lt' hb h1
  unfold divOk; omega
theorem bits_le (x : Int) : Builtin.Int.intBits x ≤ x.natAbs.log2 + 1 := by
  unfold Builtin.Int.intBits
  split <;> omega
theorem op_powW {X : Cx} : OpR X (binaryOp .Pow) (rI powOk fun i j => .int (i ^ j.toNat)) := opI fun i j _ _ _ _ _ hc q => by
  refine PyProof.Rows.pow_int hc.1 ?_ q
  have h := hc.2
  have b := bits_le i
  have b' : (Builtin.Int.intBits i : Int) ≤ ((i.natAbs.log2 + 1 : Nat) : Int) := by exact_mod_cast b
  exact Int.le_trans (Int.mul_le_mul_of_nonneg_right b' hc.1) h
theorem op_fdivA {X : Cx} : OpR X (binaryOp .FloorDiv) (rI (fun _ j => j ≠ 0 ∧ divOk j) fun i j => .int (i.fdiv j)) := opI fun i j _ _ _ _ _ hc q =>
  PyProof.Rows.floordiv_int hc.1 q (.inl (PyProof.noPylong_of_log2 hc.2))

def dAdd : D → D → Sto → Res D
  | .int i, .int j, st => .ok (.int (i + j)) st
  | .int i, .bl b, st => .ok (.int (i + PyProof.Rows.b2i b)) st
  | .str x, .str y, st => if x.length + y.length ≤ 16777216 then .ok (.str (x ++ y)) st else .bad
  | .lst x, .lst y, st => if x.length + y.length ≤ 16777216 then .ok (.lst (x ++ y)) st else .bad
  | .tup x, .tup y, st => if x.length + y.length ≤ 16777216 then .ok (.tup (x ++ y)) st else .bad
  | _, _, _ => .bad
def dSub : D → D → Sto → Res D
  | .int i, .int j, st => .ok (.int (i - j)) st
  | _, _, _ => .bad
def dMul : D → D → Sto → Res D
  | .int i, .int j, st => if mulOk i j then .ok (.int (i * j)) st else .bad
  | _, _, _ => .bad
def dDiv : D → D → Sto → Res D
  | .int i, .int j, st => if 0 < j ∧ divOk j then .ok (.int (i / j)) st else if j < 0 ∧ divOk j then .ok (.int (i.fdiv j)) st else .bad
  | _, _, _ => .bad
def dMod : D → D → Sto → Res D
  | .int i, .int j, st => if 0 < j then .ok (.int (i % j)) st else if j < 0 then .ok (.int (i.fmod j)) st else .bad
  | _, _, _ => .bad
def dPow : D → D → Sto → Res D
  | .int i, .int j, st => if powOk i j then .ok (.int (i ^ j.toNat)) st else .bad
  | _, _, _ => .bad
def dNeg : D → Sto → Res D
  | .int i, st => .ok (.int (-i)) st
  | _, _ => .bad
def dCmpI (p : Int → Int → Bool) : D → D → Sto → Res D
  | .int i, .int j, st => .ok (.bl (p i j)) st
  | _, _, _ => .bad
abbrev dLt := dCmpI fun i j => decide (i < j)
abbrev dLe := dCmpI fun i j => decide (i ≤ j)
abbrev dGt := dCmpI fun i j => decide (j < i)
abbrev dGe := dCmpI fun i j => decide (j ≤ i)

section
variable {X : Cx} {W : We}
abbrev rAddA : R2 := fun x y H Q => (∃ i j, x = .int i ∧ y = .int j ∧ Q (.int (i + j)) H) ∨ (∃ i k, x = .int i ∧ y = .bl k ∧ Q (.int (i + PyProof.Rows.b2i k)) H) ∨
  (∃ i j, x = .str i ∧ y = .str j ∧ i.length + j.length ≤ sizeLine ∧ Q (.str (i ++ j)) H) ∨ rCat x y H Q
theorem fits_add : Fits2 X W (fun x y H Q => rAddA x y H Q ∨ rCatA X.K x y H Q) dAdd := by
  intro m st σ x y v w Q rm ra rb hp
  unfold dAdd at hp
  split at hp
  · cases ra; cases rb; exact .inl (.inl ⟨_, _, rfl, rfl, hp.okc rm (.int _)⟩)
  · cases ra; cases rb; exact .inl (.inr (.inl ⟨_, _, rfl, rfl, hp.okc rm (.int _)⟩))
  · cases ra; cases rb
    split at hp
    · rename_i h
      exact .inl (.inr (.inr (.inl ⟨_, _, rfl, rfl, le_line.mp h, hp.okc rm (.str _)⟩)))
    · exact False.elim hp
  · split at hp
    · rename_i h
      cases ra with
      | lst h1 h2 =>
        cases rb with
        | lst h3 h4 =>
          refine .inl (.inr (.inr (.inr ⟨_, _, _, _, rfl, rfl, rm.sub _ _ h1, rm.sub _ _ h3, ?_, hp.lay (α := D) rm fun p hn => ?_⟩)))
          · rw [← h2.length, ← h4.length]; exact le_line.mp h
          · exact .lst upd_same ((h2.append h4).mono (Ext.lay rm hn))
    · exact False.elim hp
  · split at hp
    · rename_i h
      cases ra with
      | tup h1 h2 =>
        cases rb with
        | tup h3 h4 =>
          refine .inr ⟨_, _, _, _, rfl, rfl, sqT_mono rm.sub h1, sqT_mono rm.sub h3, ?_, fun z => ?_, fun _ z => ?_, fun _ _ => hp.lay (α := D) rm fun p hn => .tup (.of upd_same) ((h2.append h4).mono (Ext.lay rm hn))⟩
          · rw [← h2.length, ← h4.length]; exact le_line.mp h
          · subst z
            cases h2
            exact hp.okc rm (.tup h3 h4)
          · subst z
            cases h4
            rw [List.append_nil] at hp
            exact hp.okc rm (.tup h1 h2)
    · exact False.elim hp
  · exact False.elim hp
theorem op_addA : OpR X (binaryOp .Add) (fun x y H Q => rAddA x y H Q ∨ rCatA X.K x y H Q) :=
  (op_add.or (op_add_ib.or (op_add_str.or op_cat))).or op_catA
theorem fits_sub : Fits2 X W (rI0 fun i j => .int (i - j)) dSub := by
  intro m st σ x y v w Q rm ra rb hp
  unfold dSub at hp
  split at hp
  · cases ra; cases rb; exact ⟨_, _, rfl, rfl, hp.okc rm (.int _)⟩
  · exact False.elim hp
theorem fits_mul : Fits2 X W (rI CMulW fun i j => .int (i * j)) dMul := by
  intro m st σ x y v w Q rm ra rb hp
  unfold dMul at hp
  split at hp
  · split at hp
    · rename_i h
      cases ra; cases rb; exact ⟨_, _, rfl, rfl, h, hp.okc rm (.int _)⟩
    · exact False.elim hp
  · exact False.elim hp
theorem fits_div : Fits2 X W (rI (fun _ j => j ≠ 0 ∧ divOk j) fun i j => .int (i.fdiv j)) dDiv := by
  intro m st σ x y v w Q rm ra rb hp
  unfold dDiv at hp
  split at hp
  · rename_i st' i j
    cases ra; cases rb
    split at hp
    · rename_i h
      refine ⟨_, _, rfl, rfl, ⟨by omega, h.2⟩, ?_⟩
      have e : i.fdiv j = i / j := Int.fdiv_eq_ediv_of_nonneg i (by omega)
      show Q (V.int _) _
      rw [e]
      exact hp.okc rm (.int _)
    · split at hp
      · rename_i h
        exact ⟨_, _, rfl, rfl, ⟨by omega, h.2⟩, hp.okc rm (.int _)⟩
      · exact False.elim hp
  · exact False.elim hp
theorem fits_mod : Fits2 X W (rI (fun _ j => j ≠ 0) fun i j => .int (i.fmod j)) dMod := by
  intro m st σ x y v w Q rm ra rb hp
  unfold dMod at hp
  split at hp
  · rename_i st' i j
    cases ra; cases rb
    split at hp
    · rename_i h
      refine ⟨_, _, rfl, rfl, by omega, ?_⟩
      have e : i.fmod j = i % j := Int.fmod_eq_emod_of_nonneg i (by omega)
      show Q (V.int _) _
      rw [e]
      exact hp.okc rm (.int _)
    · split at hp
      · rename_i h
        exact ⟨_, _, rfl, rfl, by omega, hp.okc rm (.int _)⟩
      · exact False.elim hp
  · exact False.elim hp
theorem fits_pow : Fits2 X W (rI powOk fun i j => .int (i ^ j.toNat)) dPow := by
  intro m st σ x y v w Q rm ra rb hp
  unfold dPow at hp
  split at hp
  · split at hp
    · rename_i h
      cases ra; cases rb; exact ⟨_, _, rfl, rfl, h, hp.okc rm (.int _)⟩
    · exact False.elim hp
  · exact False.elim hp
theorem fits_neg : Fits1 X W (rU fun i => .int (-i)) dNeg := by
  intro m st σ x v Q rm ra hp
  unfold dNeg at hp
  split at hp
  · cases ra; exact ⟨_, rfl, hp.okc rm (.int _)⟩
  · exact False.elim hp
theorem fits_cmpI {p : Int → Int → Bool} : Fits2 X W (rI0 fun i j => .bl (p i j)) (dCmpI p) := by
  intro m st σ x y v w Q rm ra rb hp
  unfold dCmpI at hp
  split at hp
  · cases ra; cases rb; exact ⟨_, _, rfl, rfl, hp.okc rm (.bl _)⟩
  · exact False.elim hp
end

/-! == of data -/
mutual
def toPy : D → Option PyData
  | .non => some .none
  | .bl b => some (.bool b)
  | .int i => some (.int i)
  | .str x => some (.str x)
  | .tup l => (toPys l).map .tuple
  | .lst l => (toPys l).map .list
  | _ => none
def toPys : List D → Option (List PyData)
  | [] => some []
  | x :: l => match toPy x, toPys l with
    | some d, some ds => some (d :: ds)
    | _, _ => none
end
mutual
def dEqv : D → D → Bool
  | .non, .non => true
  | .bl a, .bl b => a == b
  | .bl a, .int j => (if a then 1 else 0) == j
  | .int i, .bl b => i == (if b then 1 else 0)
  | .int i, .int j => i == j
  | .str x, .str y => x == y
  | .tup l, .tup l' => dEqvs l l'
  | .lst l, .lst l' => dEqvs l l'
  | _, _ => false
def dEqvs : List D → List D → Bool
  | [], [] => true
  | x :: l, y :: l' => dEqv x y && dEqvs l l'
  | _, _ => false
end
@[simp] theorem dEqv_x0 (a' : Bool) : dEqv (.non) (.bl a') = false := rfl
@[simp] theorem dEqv_x1 (i' : Int) : dEqv (.non) (.int i') = false := rfl
@[simp] theorem dEqv_x2 (x' : Str) : dEqv (.non) (.str x') = false := rfl
@[simp] theorem dEqv_x3 (l' : List D) : dEqv (.non) (.tup l') = false := rfl
@[simp] theorem dEqv_x4 (l' : List D) : dEqv (.non) (.lst l') = false := rfl
@[simp] theorem dEqv_x5 (c' : Nat) (l' : List D) : dEqv (.non) (.ins c' l') = false := rfl
@[simp] theorem dEqv_x6 (n' : Nat) : dEqv (.non) (.loc n') = false := rfl
@[simp] theorem dEqv_x7 (l' : List Int) : dEqv (.non) (.scr l') = false := rfl
@[simp] theorem dEqv_x8 : dEqv (.non) (.edict) = false := rfl
@[simp] theorem dEqv_x9 (a : Bool) : dEqv (.bl a) (.non) = false := rfl
@[simp] theorem dEqv_x10 (a : Bool) (x' : Str) : dEqv (.bl a) (.str x') = false := rfl
@[simp] theorem dEqv_x11 (a : Bool) (l' : List D) : dEqv (.bl a) (.tup l') = false := rfl
@[simp] theorem dEqv_x12 (a : Bool) (l' : List D) : dEqv (.bl a) (.lst l') = false := rfl
@[simp] theorem dEqv_x13 (a : Bool) (c' : Nat) (l' : List D) : dEqv (.bl a) (.ins c' l') = false := rfl
@[simp] theorem dEqv_x14 (a : Bool) (n' : Nat) : dEqv (.bl a) (.loc n') = false := rfl
@[simp] theorem dEqv_x15 (a : Bool) (l' : List Int) : dEqv (.bl a) (.scr l') = false := rfl
@[simp] theorem dEqv_x16 (a : Bool) : dEqv (.bl a) (.edict) = false := rfl
@[simp] theorem dEqv_x17 (i : Int) : dEqv (.int i) (.non) = false := rfl
@[simp] theorem dEqv_x18 (i : Int) (x' : Str) : dEqv (.int i) (.str x') = false := rfl
@[simp] theorem dEqv_x19 (i : Int) (l' : List D) : dEqv (.int i) (.tup l') = false := rfl
@[simp] theorem dEqv_x20 (i : Int) (l' : List D) : dEqv (.int i) (.lst l') = false := rfl
@[simp] theorem dEqv_x21 (i : Int) (c' : Nat) (l' : List D) : dEqv (.int i) (.ins c' l') = false := rfl
@[simp] theorem dEqv_x22 (i : Int) (n' : Nat) : dEqv (.int i) (.loc n') = false := rfl
@[simp] theorem dEqv_x23 (i : Int) (l' : List Int) : dEqv (.int i) (.scr l') = false := rfl
@[simp] theorem dEqv_x24 (i : Int) : dEqv (.int i) (.edict) = false := rfl
@[simp] theorem dEqv_x25 (x : Str) : dEqv (.str x) (.non) = false := rfl
@[simp] theorem dEqv_x26 (x : Str) (a' : Bool) : dEqv (.str x) (.bl a') = false := rfl
@[simp] theorem dEqv_x27 (x : Str) (i' : Int) : dEqv (.str x) (.int i') = false := rfl
@[simp] theorem dEqv_x28 (x : Str) (l' : List D) : dEqv (.str x) (.tup l') = false := rfl
@[simp] theorem dEqv_x29 (x : Str) (l' : List D) : dEqv (.str x) (.lst l') = false := rfl
@[simp] theorem dEqv_x30 (x : Str) (c' : Nat) (l' : List D) : dEqv (.str x) (.ins c' l') = false := rfl
@[simp] theorem dEqv_x31 (x : Str) (n' : Nat) : dEqv (.str x) (.loc n') = false := rfl
@[simp] theorem dEqv_x32 (x : Str) (l' : List Int) : dEqv (.str x) (.scr l') = false := rfl
@[simp] theorem dEqv_x33 (x : Str) : dEqv (.str x) (.edict) = false := rfl
@[simp] theorem dEqv_x34 (l : List D) : dEqv (.tup l) (.non) = false := rfl
@[simp] theorem dEqv_x35 (l : List D) (a' : Bool) : dEqv (.tup l) (.bl a') = false := rfl
@[simp] theorem dEqv_x36 (l : List D) (i' : Int) : dEqv (.tup l) (.int i') = false := rfl
@[simp] theorem dEqv_x37 (l : List D) (x' : Str) : dEqv (.tup l) (.str x') = false := rfl
@[simp] theorem dEqv_x38 (l : List D) (l' : List D) : dEqv (.tup l) (.lst l') = false := rfl
@[simp] theorem dEqv_x39 (l : List D) (c' : Nat) (l' : List D) : dEqv (.tup l) (.ins c' l') = false := rfl
@[simp] theorem dEqv_x40 (l : List D) (n' : Nat) : dEqv (.tup l) (.loc n') = false := rfl
@[simp] theorem dEqv_x41 (l : List D) (l' : List Int) : dEqv (.tup l) (.scr l') = false := rfl
@[simp] theorem dEqv_x42 (l : List D) : dEqv (.tup l) (.edict) = false := rfl
@[simp] theorem dEqv_x43 (l : List D) : dEqv (.lst l) (.non) = false := rfl
@[simp] theorem dEqv_x44 (l : List D) (a' : Bool) : dEqv (.lst l) (.bl a') = false := rfl
@[simp] theorem dEqv_x45 (l : List D) (i' : Int) : dEqv (.lst l) (.int i') = false := rfl
@[simp] theorem dEqv_x46 (l : List D) (x' : Str) : dEqv (.lst l) (.str x') = false := rfl
@[simp] theorem dEqv_x47 (l : List D) (l' : List D) : dEqv (.lst l) (.tup l') = false := rfl
@[simp] theorem dEqv_x48 (l : List D) (c' : Nat) (l' : List D) : dEqv (.lst l) (.ins c' l') = false := rfl
@[simp] theorem dEqv_x49 (l : List D) (n' : Nat) : dEqv (.lst l) (.loc n') = false := rfl
@[simp] theorem dEqv_x50 (l : List D) (l' : List Int) : dEqv (.lst l) (.scr l') = false := rfl
@[simp] theorem dEqv_x51 (l : List D) : dEqv (.lst l) (.edict) = false := rfl
@[simp] theorem dEqv_x52 (c : Nat) (l : List D) : dEqv (.ins c l) (.non) = false := rfl
@[simp] theorem dEqv_x53 (c : Nat) (l : List D) (a' : Bool) : dEqv (.ins c l) (.bl a') = false := rfl
@[simp] theorem dEqv_x54 (c : Nat) (l : List D) (i' : Int) : dEqv (.ins c l) (.int i') = false := rfl
@[simp] theorem dEqv_x55 (c : Nat) (l : List D) (x' : Str) : dEqv (.ins c l) (.str x') = false := rfl
@[simp] theorem dEqv_x56 (c : Nat) (l : List D) (l' : List D) : dEqv (.ins c l) (.tup l') = false := rfl
@[simp] theorem dEqv_x57 (c : Nat) (l : List D) (l' : List D) : dEqv (.ins c l) (.lst l') = false := rfl
@[simp] theorem dEqv_x58 (c : Nat) (l : List D) (n' : Nat) : dEqv (.ins c l) (.loc n') = false := rfl
@[simp] theorem dEqv_x59 (c : Nat) (l : List D) (l' : List Int) : dEqv (.ins c l) (.scr l') = false := rfl
@[simp] theorem dEqv_x60 (c : Nat) (l : List D) : dEqv (.ins c l) (.edict) = false := rfl
@[simp] theorem dEqv_x61 (n : Nat) : dEqv (.loc n) (.non) = false := rfl
@[simp] theorem dEqv_x62 (n : Nat) (a' : Bool) : dEqv (.loc n) (.bl a') = false := rfl
@[simp] theorem dEqv_x63 (n : Nat) (i' : Int) : dEqv (.loc n) (.int i') = false := rfl
@[simp] theorem dEqv_x64 (n : Nat) (x' : Str) : dEqv (.loc n) (.str x') = false := rfl
@[simp] theorem dEqv_x65 (n : Nat) (l' : List D) : dEqv (.loc n) (.tup l') = false := rfl
@[simp] theorem dEqv_x66 (n : Nat) (l' : List D) : dEqv (.loc n) (.lst l') = false := rfl
@[simp] theorem dEqv_x67 (n : Nat) (c' : Nat) (l' : List D) : dEqv (.loc n) (.ins c' l') = false := rfl
@[simp] theorem dEqv_x68 (n : Nat) (l' : List Int) : dEqv (.loc n) (.scr l') = false := rfl
@[simp] theorem dEqv_x69 (n : Nat) : dEqv (.loc n) (.edict) = false := rfl
@[simp] theorem dEqv_x70 (l : List Int) : dEqv (.scr l) (.non) = false := rfl
@[simp] theorem dEqv_x71 (l : List Int) (a' : Bool) : dEqv (.scr l) (.bl a') = false := rfl
@[simp] theorem dEqv_x72 (l : List Int) (i' : Int) : dEqv (.scr l) (.int i') = false := rfl
@[simp] theorem dEqv_x73 (l : List Int) (x' : Str) : dEqv (.scr l) (.str x') = false := rfl
@[simp] theorem dEqv_x74 (l : List Int) (l' : List D) : dEqv (.scr l) (.tup l') = false := rfl
@[simp] theorem dEqv_x75 (l : List Int) (l' : List D) : dEqv (.scr l) (.lst l') = false := rfl
@[simp] theorem dEqv_x76 (l : List Int) (c' : Nat) (l' : List D) : dEqv (.scr l) (.ins c' l') = false := rfl
@[simp] theorem dEqv_x77 (l : List Int) (n' : Nat) : dEqv (.scr l) (.loc n') = false := rfl
@[simp] theorem dEqv_x78 (l : List Int) : dEqv (.scr l) (.edict) = false := rfl
@[simp] theorem dEqv_x79 : dEqv (.edict) (.non) = false := rfl
@[simp] theorem dEqv_x80 (a' : Bool) : dEqv (.edict) (.bl a') = false := rfl
@[simp] theorem dEqv_x81 (i' : Int) : dEqv (.edict) (.int i') = false := rfl
@[simp] theorem dEqv_x82 (x' : Str) : dEqv (.edict) (.str x') = false := rfl
@[simp] theorem dEqv_x83 (l' : List D) : dEqv (.edict) (.tup l') = false := rfl
@[simp] theorem dEqv_x84 (l' : List D) : dEqv (.edict) (.lst l') = false := rfl
@[simp] theorem dEqv_x85 (c' : Nat) (l' : List D) : dEqv (.edict) (.ins c' l') = false := rfl
@[simp] theorem dEqv_x86 (n' : Nat) : dEqv (.edict) (.loc n') = false := rfl
@[simp] theorem dEqv_x87 (l' : List Int) : dEqv (.edict) (.scr l') = false := rfl
@[simp] theorem dEqv_nn : dEqv .non .non = true := rfl
@[simp] theorem dEqv_bb (a b : Bool) : dEqv (.bl a) (.bl b) = (a == b) := rfl
@[simp] theorem dEqv_bi (a : Bool) (j : Int) : dEqv (.bl a) (.int j) = ((if a then 1 else 0) == j) := rfl
@[simp] theorem dEqv_ib (i : Int) (b : Bool) : dEqv (.int i) (.bl b) = (i == (if b then 1 else 0)) := rfl
@[simp] theorem dEqv_ii (i j : Int) : dEqv (.int i) (.int j) = (i == j) := rfl
@[simp] theorem dEqv_ss (x y : Str) : dEqv (.str x) (.str y) = (x == y) := rfl
@[simp] theorem dEqv_tt (l m : List D) : dEqv (.tup l) (.tup m) = dEqvs l m := rfl
@[simp] theorem dEqv_ll (l m : List D) : dEqv (.lst l) (.lst m) = dEqvs l m := rfl
@[simp] theorem dEqvs_nn : dEqvs [] [] = true := rfl
@[simp] theorem dEqvs_cc (x y : D) (l m : List D) : dEqvs (x :: l) (y :: m) = (dEqv x y && dEqvs l m) := rfl
@[simp] theorem dEqvs_nc (y : D) (m : List D) : dEqvs [] (y :: m) = false := rfl
@[simp] theorem dEqvs_cn (y : D) (m : List D) : dEqvs (y :: m) [] = false := rfl
theorem toPys_cons {x : D} {l : List D} {ds : List PyData} (h : toPys (x :: l) = some ds) : ∃ d r, ds = d :: r ∧ toPy x = some d ∧ toPys l = some r := by
  unfold toPys at h
  split at h
  · rename_i d r h1 h2
    exact ⟨d, r, (Option.some.inj h).symm, h1, h2⟩
  · cases h
theorem toPy_tup {l : List D} {d : PyData} (h : toPy (.tup l) = some d) : ∃ ds, d = .tuple ds ∧ toPys l = some ds := by
  unfold toPy at h
  obtain ⟨ds, h1, h2⟩ := Option.map_eq_some_iff.mp h
  exact ⟨ds, h2.symm, h1⟩
theorem toPy_lst {l : List D} {d : PyData} (h : toPy (.lst l) = some d) : ∃ ds, d = .list ds ∧ toPys l = some ds := by
  unfold toPy at h
  obtain ⟨ds, h1, h2⟩ := Option.map_eq_some_iff.mp h
  exact ⟨ds, h2.symm, h1⟩
mutual
theorem dEqv_py : ∀ (x y : D) (d e : PyData), toPy x = some d → toPy y = some e → dEqv x y = PyData.eqv d e
  | .non, y, d, e, hd, he => by
    cases (Option.some.inj (by simpa [toPy] using hd) : PyData.none = d)
    cases y <;> first | (simp [toPy] at he; done) | (obtain ⟨ds, rfl, _⟩ := toPy_tup he; simp [dEqv, PyData.eqv]) | (obtain ⟨ds, rfl, _⟩ := toPy_lst he; simp [dEqv, PyData.eqv]) | (simp [toPy] at he; subst he; simp [dEqv, PyData.eqv])
  | .bl b, y, d, e, hd, he => by
    cases (Option.some.inj (by simpa [toPy] using hd) : PyData.bool b = d)
    cases y <;> first | (simp [toPy] at he; done) | (obtain ⟨ds, rfl, _⟩ := toPy_tup he; simp [dEqv, PyData.eqv]) | (obtain ⟨ds, rfl, _⟩ := toPy_lst he; simp [dEqv, PyData.eqv]) | (simp [toPy] at he; subst he; simp [dEqv, PyData.eqv])
  | .int b, y, d, e, hd, he => by
    cases (Option.some.inj (by simpa [toPy] using hd) : PyData.int b = d)
    cases y <;> first | (simp [toPy] at he; done) | (obtain ⟨ds, rfl, _⟩ := toPy_tup he; simp [dEqv, PyData.eqv]) | (obtain ⟨ds, rfl, _⟩ := toPy_lst he; simp [dEqv, PyData.eqv]) | (simp [toPy] at he; subst he; simp [dEqv, PyData.eqv])
  | .str b, y, d, e, hd, he => by
    cases (Option.some.inj (by simpa [toPy] using hd) : PyData.str b = d)
    cases y <;> first | (simp [toPy] at he; done) | (obtain ⟨ds, rfl, _⟩ := toPy_tup he; simp [dEqv, PyData.eqv]) | (obtain ⟨ds, rfl, _⟩ := toPy_lst he; simp [dEqv, PyData.eqv]) | (simp [toPy] at he; subst he; simp [dEqv, PyData.eqv])
  | .tup l, y, d, e, hd, he => by
    obtain ⟨ds, rfl, h1⟩ := toPy_tup hd
    cases y with
    | tup l' =>
      obtain ⟨es, rfl, h2⟩ := toPy_tup he
      simp only [dEqv, PyData.eqv]
      exact dEqvs_py l l' ds es h1 h2
    | lst l' => obtain ⟨es, rfl, h2⟩ := toPy_lst he; simp [dEqv, PyData.eqv]
    | _ => first | (simp [toPy] at he; done) | (simp [toPy] at he; subst he; simp [dEqv, PyData.eqv])
  | .lst l, y, d, e, hd, he => by
    obtain ⟨ds, rfl, h1⟩ := toPy_lst hd
    cases y with
    | lst l' =>
      obtain ⟨es, rfl, h2⟩ := toPy_lst he
      simp only [dEqv, PyData.eqv]
      exact dEqvs_py l l' ds es h1 h2
    | tup l' => obtain ⟨es, rfl, h2⟩ := toPy_tup he; simp [dEqv, PyData.eqv]
    | _ => first | (simp [toPy] at he; done) | (simp [toPy] at he; subst he; simp [dEqv, PyData.eqv])
  | .ins _ _, _, _, _, hd, _ => by simp [toPy] at hd
  | .edict, _, _, _, hd, _ => by simp [toPy] at hd
  | .loc _, _, _, _, hd, _ => by simp [toPy] at hd
  | .scr _, _, _, _, hd, _ => by simp [toPy] at hd
theorem dEqvs_py : ∀ (l l' : List D) (ds es : List PyData), toPys l = some ds → toPys l' = some es → dEqvs l l' = PyData.eqvAll ds es
  | [], l', ds, es, hd, he => by
    cases (Option.some.inj (by simpa [toPys] using hd) : [] = ds)
    cases l' with
    | nil => cases (Option.some.inj (by simpa [toPys] using he) : [] = es); simp [dEqvs, PyData.eqvAll]
    | cons y l' => obtain ⟨e, r, rfl, _⟩ := toPys_cons he; simp [dEqvs, PyData.eqvAll]
  | x :: l, l', ds, es, hd, he => by
    obtain ⟨d, r, rfl, h1, h2⟩ := toPys_cons hd
    cases l' with
    | nil => cases (Option.some.inj (by simpa [toPys] using he) : [] = es); simp [dEqvs, PyData.eqvAll]
    | cons y l' =>
      obtain ⟨e, r', rfl, h3, h4⟩ := toPys_cons he
      simp only [dEqvs, PyData.eqvAll]
      rw [dEqv_py x y d e h1 h3, dEqvs_py l l' r r' h2 h4]
end
section
variable {X : Cx} {W : We}
mutual
theorem dp_of {K : PySem.W.Frag} {mg : Str → Option Value} {r : List Addr} {G H : Hp} (sub : ∀ a o, G a = some o → H a = some o) : ∀ (x : D) (v : V) (d : PyData), Rep K mg r G x v → toPy x = some d → Dp K H v d
  | .non, _, _, h, e => by cases h; cases (Option.some.inj (by simpa [toPy] using e) : PyData.none = _); exact .non
  | .bl b, _, _, h, e => by cases h; cases (Option.some.inj (by simpa [toPy] using e) : PyData.bool b = _); exact .bl b
  | .int b, _, _, h, e => by cases h; cases (Option.some.inj (by simpa [toPy] using e) : PyData.int b = _); exact .int b
  | .str b, _, _, h, e => by cases h; cases (Option.some.inj (by simpa [toPy] using e) : PyData.str b = _); exact .str b
  | .tup l, _, _, h, e => by
    obtain ⟨ds, rfl, h1⟩ := toPy_tup e
    cases h with
    | tup h2 h3 => exact .tup (sqT_mono sub h2) (dps_of sub l _ _ h3 h1)
  | .lst l, _, _, h, e => by
    obtain ⟨ds, rfl, h1⟩ := toPy_lst e
    cases h with
    | lst h2 h3 => exact .lst (.of (sub _ _ h2)) (dps_of sub l _ _ h3 h1)
  | .ins _ _, _, _, _, e => by simp [toPy] at e
  | .edict, _, _, _, e => by simp [toPy] at e
  | .loc _, _, _, _, e => by simp [toPy] at e
  | .scr _, _, _, _, e => by simp [toPy] at e
theorem dps_of {K : PySem.W.Frag} {mg : Str → Option Value} {r : List Addr} {G H : Hp} (sub : ∀ a o, G a = some o → H a = some o) : ∀ (l : List D) (vs : List V) (ds : List PyData), Reps K mg r G l vs → toPys l = some ds → DpAll K H vs ds
  | [], _, _, h, e => by cases h; cases (Option.some.inj (by simpa [toPys] using e) : [] = _); exact .nil
  | x :: l, _, _, h, e => by
    obtain ⟨d, q, rfl, h1, h2⟩ := toPys_cons e
    cases h with
    | cons h3 h4 => exact .cons (dp_of sub x _ _ h3 h1) (dps_of sub l _ _ h4 h2)
end
def eqOk (x y : D) : Bool := match toPy x, toPy y with
  | some d, some e => decide (min d.depth e.depth ≤ 64)
  | _, _ => false
mutual
theorem toPy_plain : ∀ (x : D) (d : PyData), toPy x = some d → d.plain = true
  | .non, d, e => by cases (Option.some.inj (by simpa [toPy] using e) : PyData.none = d); rfl
  | .bl b, d, e => by cases (Option.some.inj (by simpa [toPy] using e) : PyData.bool b = d); rfl
  | .int b, d, e => by cases (Option.some.inj (by simpa [toPy] using e) : PyData.int b = d); rfl
  | .str b, d, e => by cases (Option.some.inj (by simpa [toPy] using e) : PyData.str b = d); rfl
  | .tup l, d, e => by
    obtain ⟨ds, rfl, h1⟩ := toPy_tup e
    exact toPys_plain l ds h1
  | .lst l, d, e => by
    obtain ⟨ds, rfl, h1⟩ := toPy_lst e
    exact toPys_plain l ds h1
  | .ins _ _, _, e => by simp [toPy] at e
  | .edict, _, e => by simp [toPy] at e
  | .loc _, _, e => by simp [toPy] at e
  | .scr _, _, e => by simp [toPy] at e
theorem toPys_plain : ∀ (l : List D) (ds : List PyData), toPys l = some ds → PyData.plainAll ds = true
  | [], ds, e => by cases (Option.some.inj (by simpa [toPys] using e) : [] = ds); rfl
  | x :: l, ds, e => by
    obtain ⟨d, r, rfl, h1, h2⟩ := toPys_cons e
    show (d.plain && PyData.plainAll r) = true
    rw [toPy_plain x d h1, toPys_plain l r h2]
    rfl
end
def rEqP (K : PySem.W.Frag) : R2 := fun x y H Q => ∃ d e, Dp K H x d ∧ Dp K H y e ∧ d.plain = true ∧ e.plain = true ∧ min d.depth e.depth ≤ 64 ∧ Q (.bl (PyData.eqv d e)) H
def rNeP (K : PySem.W.Frag) : R2 := fun x y H Q => ∃ d e, Dp K H x d ∧ Dp K H y e ∧ d.plain = true ∧ e.plain = true ∧ min d.depth e.depth ≤ 64 ∧ Q (.bl (!PyData.eqv d e)) H
theorem op_eqP (hu : X.A.units + 64 < cLine) : OpR X (compareOp .Eq) (rEqP X.K) := by
  intro pins s σ H x y v u Q I rx ry h
  obtain ⟨d, e, hd, he, sd, se, hz, q⟩ := h
  obtain ⟨as, r1⟩ := Dp.reads I d x v hd rx
  obtain ⟨bs, r2⟩ := Dp.reads I e y u he ry
  exact SeqAt.eq_plain r1 r2 sd se (by omega) ⟨.bl _, H, I, rfl, q⟩
theorem op_neP (hu : X.A.units + 64 < cLine) : OpR X (compareOp .NotEq) (rNeP X.K) := by
  intro pins s σ H x y v u Q I rx ry h
  obtain ⟨d, e, hd, he, sd, se, hz, q⟩ := h
  obtain ⟨as, r1⟩ := Dp.reads I d x v hd rx
  obtain ⟨bs, r2⟩ := Dp.reads I e y u he ry
  exact SeqAt.ne_plain r1 r2 sd se (by omega) ⟨.bl _, H, I, rfl, q⟩
/-- a list of the store, as it stands -/
def resD (st : Sto) : D → D
  | .loc n => match st[n]? with
    | some (.lst l) => .lst l
    | _ => .loc n
  | x => x
theorem res_dp {m : Hw} {st : Sto} {x : D} {v : V} {d : PyData} (rm : Rel X.K X.mg m st) (h : Rep X.K X.mg m.r m.g x v) (e : toPy (resD st x) = some d) : Dp X.K m.h v d := by
  unfold resD at e
  split at e
  · rename_i n
    cases h with
    | loc h1 =>
      split at e
      · rename_i l hl
        obtain ⟨vs, h2, h3⟩ := rm.obj _ _ _ h1 hl
        obtain ⟨ds, rfl, e1⟩ := toPy_lst e
        exact .lst (.of h2) (dps_of rm.sub l _ _ h3 e1)
      · simp [toPy] at e
  · exact dp_of rm.sub _ _ _ h e
def dEq (x y : D) (st : Sto) : Res D := if eqOk (resD st x) (resD st y) = true then .ok (.bl (dEqv (resD st x) (resD st y))) st else .bad
def dNe (x y : D) (st : Sto) : Res D := if eqOk (resD st x) (resD st y) = true then .ok (.bl (!dEqv (resD st x) (resD st y))) st else .bad
theorem eqOk_get {x y : D} (h : eqOk x y = true) : ∃ d e, toPy x = some d ∧ toPy y = some e ∧ min d.depth e.depth ≤ 64 := by
  unfold eqOk at h
  split at h
  · rename_i d e h1 h2
    exact ⟨d, e, h1, h2, of_decide_eq_true h⟩
  · cases h
theorem fits_eq : Fits2 X W (rEqP X.K) dEq := by
  intro m st σ x y v w Q rm ra rb hp
  unfold dEq at hp
  split at hp
  · rename_i h
    obtain ⟨d, e, h1, h2, h3⟩ := eqOk_get h
    rw [dEqv_py _ _ d e h1 h2] at hp
    exact ⟨d, e, res_dp rm ra h1, res_dp rm rb h2, toPy_plain _ _ h1, toPy_plain _ _ h2, h3, hp.okc rm (.bl _)⟩
  · exact False.elim hp
theorem fits_ne : Fits2 X W (rNeP X.K) dNe := by
  intro m st σ x y v w Q rm ra rb hp
  unfold dNe at hp
  split at hp
  · rename_i h
    obtain ⟨d, e, h1, h2, h3⟩ := eqOk_get h
    rw [dEqv_py _ _ d e h1 h2] at hp
    exact ⟨d, e, res_dp rm ra h1, res_dp rm rb h2, toPy_plain _ _ h1, toPy_plain _ _ h2, h3, hp.okc rm (.bl _)⟩
  · exact False.elim hp
/-! is None -/
def dIsN : D → D → Sto → Res D
  | x, .non, st => .ok (.bl (match x with | .non => true | _ => false)) st
  | _, _, _ => .bad
def dNotN : D → D → Sto → Res D
  | x, .non, st => .ok (.bl (match x with | .non => false | _ => true)) st
  | _, _, _ => .bad
theorem fits_isN : Fits2 X W (fun x y H Q => y = .non ∧ Q (.bl (decide (x = .non))) H) dIsN := by
  intro m st σ x y v w Q rm ra rb hp
  unfold dIsN at hp
  split at hp
  · cases rb
    refine ⟨rfl, ?_⟩
    have q := hp.okc rm (.bl _)
    cases ra <;> simpa using q
  · exact False.elim hp
theorem fits_notN : Fits2 X W (fun x y H Q => y = .non ∧ Q (.bl (!decide (x = .non))) H) dNotN := by
  intro m st σ x y v w Q rm ra rb hp
  unfold dNotN at hp
  split at hp
  · cases rb
    refine ⟨rfl, ?_⟩
    have q := hp.okc rm (.bl _)
    cases ra <;> simpa using q
  · exact False.elim hp
/-! x in a list, a tuple of flat things -/
def dFlat : D → Bool
  | .non => true
  | .bl _ => true
  | .int _ => true
  | .str _ => true
  | _ => false
theorem flat_rep {m : Hw} {x : D} {v : V} (h : Rep X.K X.mg m.r m.g x v) (e : dFlat x = true) : flatV v = true := by
  cases h <;> first | rfl | (simp [dFlat] at e)
theorem flat_eq {m : Hw} {x y : D} {v w : V} (h : Rep X.K X.mg m.r m.g x v) (h' : Rep X.K X.mg m.r m.g y w) (e : dFlat x = true) (e' : dFlat y = true) : eqV v w = dEqv x y := by
  cases h <;> cases h' <;> first | rfl | (simp [dFlat] at e; done) | (simp [dFlat] at e'; done) | simp [eqV, dEqv]
theorem flats_rep {m : Hw} : ∀ {l : List D} {vs : List V}, Reps X.K X.mg m.r m.g l vs → l.all dFlat = true → vs.all flatV = true
  | [], _, h, _ => by cases h; rfl
  | x :: l, _, h, e => by
    cases h with
    | cons h1 h2 =>
      rw [List.all_cons, Bool.and_eq_true] at e
      rw [List.all_cons, flat_rep h1 e.1, flats_rep h2 e.2]; rfl
theorem flats_in {m : Hw} {x : D} {v : V} (hx : Rep X.K X.mg m.r m.g x v) (ex : dFlat x = true) : ∀ {l : List D} {vs : List V}, Reps X.K X.mg m.r m.g l vs → l.all dFlat = true → inV v vs = l.any fun y => dEqv y x
  | [], _, h, _ => by cases h; rfl
  | y :: l, _, h, e => by
    cases h with
    | cons h1 h2 =>
      rw [List.all_cons, Bool.and_eq_true] at e
      have ih := flats_in hx ex h2 e.2
      unfold inV at ih ⊢
      rw [List.any_cons, List.any_cons, flat_eq h1 hx e.1 ex, ih]
def itemsOf : D → Sto → Option (List D)
  | .lst l, _ => some l
  | .tup l, _ => some l
  | .scr l, _ => some (l.map .int)
  | .loc n, st => match st[n]? with
    | some (.lst l) => some l
    | _ => none
  | _, _ => none
theorem reps_ints {m : Hw} : ∀ l : List Int, Reps X.K X.mg m.r m.g (l.map .int) (l.map V.int)
  | [] => .nil
  | i :: l => .cons (.int i) (reps_ints l)
theorem items_of {m : Hw} {st : Sto} {x : D} {v : V} {l : List D} (rm : Rel X.K X.mg m st) (h : Rep X.K X.mg m.r m.g x v) (e : itemsOf x st = some l) : ∃ p vs, v = .ref p ∧ (SqL X.K m.h p vs ∨ SqT X.K m.h p vs) ∧ Reps X.K X.mg m.r m.g l vs := by
  unfold itemsOf at e
  split at e
  · cases e; cases h with
    | lst h1 h2 => exact ⟨_, _, rfl, .inl (.of (rm.sub _ _ h1)), h2⟩
  · cases e; cases h with
    | tup h1 h2 => exact ⟨_, _, rfl, .inr (sqT_mono rm.sub h1), h2⟩
  · cases e; cases h with
    | scr h1 => exact ⟨_, _, rfl, .inl (sqL_mono rm.sub h1), reps_ints _⟩
  · cases h with
    | loc h1 =>
      split at e
      · rename_i h2
        cases e
        obtain ⟨vs, h3, h4⟩ := rm.obj _ _ _ h1 h2
        exact ⟨_, _, rfl, .inl (.of h3), h4⟩
      · cases e
  · cases e
def dInL (neg : Bool) (x y : D) (st : Sto) : Res D := match itemsOf y st with
  | some l => if dFlat x = true ∧ l.all dFlat = true then .ok (.bl (if neg then !(l.any fun y => dEqv y x) else l.any fun y => dEqv y x)) st else .bad
  | none => .bad
theorem fits_inL {neg : Bool} : Fits2 X W (rIn X.K neg) (dInL neg) := by
  intro m st σ x y v w Q rm ra rb hp
  unfold dInL at hp
  split at hp
  · rename_i l h
    split at hp
    · rename_i hf
      obtain ⟨p, vs, rfl, hs, hr⟩ := items_of rm rb h
      refine ⟨p, vs, rfl, hs, flat_rep ra hf.1, flats_rep hr hf.2, ?_⟩
      rw [flats_in ra hf.1 hr hf.2]
      exact hp.okc rm (.bl _)
    · exact False.elim hp
  · exact False.elim hp
/-! items by place -/
def dAt (l : List D) (i : Int) : Option D := if 0 ≤ i then l[i.toNat]? else if -(l.length : Int) ≤ i then l[(i + l.length).toNat]? else none
def dIx : D → D → Sto → Res D
  | .str x, .int i, st => if x.length ≤ 16777216 then (match atI x.cps.toList i with
    | some c => .ok (.str ⟨#[c]⟩) st
    | none => .bad) else .bad
  | x, .int i, st => match itemsOf x st with
    | some l => match dAt l i with
      | some d => .ok d st
      | none => .bad
    | none => .bad
  | _, _, _ => .bad
theorem dAt_get {m : Hw} {l : List D} {vs : List V} {i : Int} {d : D} (h : Reps X.K X.mg m.r m.g l vs) (e : dAt l i = some d) : ∃ v, atI vs i = some v ∧ Rep X.K X.mg m.r m.g d v := by
  have hl := h.length
  unfold dAt at e
  split at e
  · rename_i h0
    obtain ⟨v, h1, h2⟩ := h.get e
    refine ⟨v, ?_, h2⟩
    unfold atI ixN
    have : i < (vs.length : Int) := by
      have := (List.getElem?_eq_some_iff.mp h1).1
      omega
    rw [if_pos h0, if_pos this]
    exact h1
  · rename_i h0
    split at e
    · rename_i h3
      obtain ⟨v, h1, h2⟩ := h.get e
      refine ⟨v, ?_, h2⟩
      unfold atI ixN
      rw [if_neg h0, if_pos (by rw [← hl]; exact h3), ← hl]
      exact h1
    · cases e
theorem fits_ix : Fits2 X W (rIx X.K) dIx := by
  intro m st σ x y v w Q rm ra rb hp
  unfold dIx at hp
  split at hp
  · split at hp
    · rename_i hl
      split at hp
      · rename_i c hc
        cases ra; cases rb
        exact .inr (.inr ⟨_, _, c, rfl, rfl, le_line.mp hl, hc, hp.okc rm (.str _)⟩)
      · exact False.elim hp
    · exact False.elim hp
  · split at hp
    · rename_i l h
      split at hp
      · rename_i d hd
        cases rb
        obtain ⟨p, vs, rfl, hs, hr⟩ := items_of rm ra h
        obtain ⟨u, h1, h2⟩ := dAt_get hr hd
        rcases hs with hs | hs
        · exact .inl ⟨_, _, _, _, rfl, rfl, hs, h1, hp.okc rm h2⟩
        · exact .inr (.inl ⟨_, _, _, _, rfl, rfl, hs, h1, hp.okc rm h2⟩)
      · exact False.elim hp
    · exact False.elim hp
  · exact False.elim hp
variable {a b : Expr} {fa fb : EF} {pos : Pos}
theorem se_ix (ha : SE X W a fa) (hb : SE X W b fb) (hs : PlainIx b) : SE X W (.Subscript a b pos) (fBin dIx fa fb) :=
  pe_weak (pe_ix ix_seq ha hb hs) fun _ _ _ h => tOp_of fits_ix h
end
end Sh
/-! Part D: calls, fields, objects. -/
namespace Sh
open PySem L2

/-! no place of the store within -/
mutual
@[simp] def pu : D → Bool
  | .tup l => pus l
  | .lst l => pus l
  | .ins _ l => pus l
  | .loc _ => false
  | _ => true
@[simp] def pus : List D → Bool
  | [] => true
  | x :: l => pu x && pus l
end
section
variable {K : PySem.W.Frag} {mg : Str → Option Value}
mutual
theorem rep_pu {r r' : List Addr} {G : Hp} : ∀ (d : D) (v : V), pu d = true → Rep K mg r G d v → Rep K mg r' G d v
  | .non, _, _, h => by cases h; exact .non
  | .bl b, _, _, h => by cases h; exact .bl b
  | .int i, _, _, h => by cases h; exact .int i
  | .str x, _, _, h => by cases h; exact .str x
  | .tup l, _, e, h => by
    cases h with
    | tup h1 h2 => exact .tup h1 (reps_pu l _ (by simpa using e) h2)
  | .lst l, _, e, h => by
    cases h with
    | lst h1 h2 => exact .lst h1 (reps_pu l _ (by simpa using e) h2)
  | .ins c l, _, e, h => by
    cases h with
    | ins h1 h2 h3 h4 => exact .ins h1 h2 h3 (reps_pu l _ (by simpa using e) h4)
  | .loc n, _, e, h => by simp at e
  | .scr l, _, _, h => by
    cases h with
    | scr h1 => exact .scr h1
  | .edict, _, _, h => by
    cases h with
    | edict h1 => exact .edict h1
theorem reps_pu {r r' : List Addr} {G : Hp} : ∀ (l : List D) (vs : List V), pus l = true → Reps K mg r G l vs → Reps K mg r' G l vs
  | [], _, _, h => by cases h; exact .nil
  | d :: l, _, e, h => by
    have e' : pu d = true ∧ pus l = true := by simpa using e
    cases h with
    | cons h1 h2 => exact .cons (rep_pu d _ e'.1 h1) (reps_pu l _ e'.2 h2)
end
mutual
theorem rep_cut {r t : List Addr} {G G' : Hp} : ∀ (d : D) (v v' : V), Rep K mg r G d v → Rep K mg (r ++ t) G' d v' → Rep K mg r G' d v'
  | .non, _, _, _, h => by cases h; exact .non
  | .bl b, _, _, _, h => by cases h; exact .bl b
  | .int i, _, _, _, h => by cases h; exact .int i
  | .str x, _, _, _, h => by cases h; exact .str x
  | .tup l, _, _, a, h => by
    cases h with
    | tup h1 h2 =>
      cases a with
      | tup a1 a2 => exact .tup h1 (reps_cut l _ _ a2 h2)
  | .lst l, _, _, a, h => by
    cases h with
    | lst h1 h2 =>
      cases a with
      | lst a1 a2 => exact .lst h1 (reps_cut l _ _ a2 h2)
  | .ins c l, _, _, a, h => by
    cases h with
    | ins h1 h2 h3 h4 =>
      cases a with
      | ins a1 a2 a3 a4 => exact .ins h1 h2 h3 (reps_cut l _ _ a4 h4)
  | .loc n, _, _, a, h => by
    cases h with
    | loc h1 =>
      cases a with
      | loc a1 =>
        rw [List.getElem?_append_left (List.getElem?_eq_some_iff.mp a1).1] at h1
        exact .loc h1
  | .scr l, _, _, _, h => by
    cases h with
    | scr h1 => exact .scr h1
  | .edict, _, _, _, h => by
    cases h with
    | edict h1 => exact .edict h1
theorem reps_cut {r t : List Addr} {G G' : Hp} : ∀ (l : List D) (vs vs' : List V), Reps K mg r G l vs → Reps K mg (r ++ t) G' l vs' → Reps K mg r G' l vs'
  | [], _, _, _, h => by cases h; exact .nil
  | d :: l, _, _, a, h => by
    cases h with
    | cons h1 h2 =>
      cases a with
      | cons a1 a2 => exact .cons (rep_cut d _ _ a1 h1) (reps_cut l _ _ a2 h2)
end
theorem srep_cut {r t : List Addr} {G G' H H' : Hp} {a : Addr} : ∀ {so : SO}, SRep K mg r G H a so → SRep K mg (r ++ t) G' H' a so → SRep K mg r G' H' a so
  | .lst l, ⟨vs, _, h⟩, ⟨vs', h1, h2⟩ => ⟨vs', h1, reps_cut _ _ _ h h2⟩
  | .dict l, ⟨vs, _, _, h⟩, ⟨vs', h1, h2, h3⟩ => ⟨vs', h1, h2, reps_cut _ _ _ h h3⟩
  | .ins c l, ⟨_, _, _, _, _, _, h⟩, ⟨C, dx, fs, h1, h2, h3, h4⟩ => ⟨C, dx, fs, h1, h2, h3, reps_cut _ _ _ h h4⟩
  | .lock l o kvs, ⟨_, _, h⟩, ⟨h1, h2, h3⟩ => ⟨h1, h2, reps_cut _ _ _ h h3⟩
/-- behind a scope: the store's new things are gone -/
theorem Rel.cut {m m' : Hw} {st st' : Sto} (R : Rel K mg m st) (R' : Rel K mg m' st') (e : Ext m m') (h : st'.take st.length = st) (g : Hp) (hg : ∀ a o, g a = some o → m'.h a = some o) (hr : ∀ a ∈ m.r, g a = none) (hm : ∀ a o, m'.g a = some o → g a = some o) :
    Rel K mg ⟨m.r, g, m'.h⟩ st := by
  obtain ⟨t, ht⟩ := e.pre
  refine ⟨hg, R.len, R.nd, hr, fun n a so e1 e2 => ?_⟩
  have e1 : m.r[n]? = some a := e1
  have e3 : st'[n]? = some so := by
    have hn : n < st.length := (List.getElem?_eq_some_iff.mp e2).1
    have := e2
    rw [← h, List.getElem?_take_of_lt hn] at this
    exact this
  have q := R'.obj n a so (e.at_ e1) e3
  rw [ht] at q
  exact srep_cut (R.obj n a so e1 e2) (q.mono' (fun _ _ z => z) hm fun _ z => z)
end

section
variable {X : Cx} {W : We} {e o : Expr} {es : List Expr} {f fo : EF} {g : AF} {pos p apos : Pos} {x m : Str}
/-! built-in functions -/
@[simp] def fCall (sem : List D → Sto → Res D) (g : AF) : EF := fun sg st => (g sg st).bind fun l st1 => sem l st1
def FitsL (X : Cx) (W : We) (r : List V → Hp → VK → Prop) (sem : List D → Sto → Res D) : Prop := ∀ (m : Hw) (st : Sto) (σ : St) (l : List D) (vs : List V) (Q : VK), Rel X.K X.mg m st → Reps X.K X.mg m.r m.g l vs → Post X.K X.mg W.w m σ (RD X.K X.mg) Q (sem l st) → r vs m.h Q
theorem tCB_of {r : List V → Hp → VK → Prop} {sem : List D → Sto → Res D} (hs : FitsL X W r sem) {σ : St} {H : Hp} {Q : VK} (h : TOf X.K X.mg W (RD X.K X.mg) (fCall sem g) σ H Q) : tCB r (TOf X.K X.mg W (RDs X.K X.mg) g) σ H Q := by
  obtain ⟨m, sg, st, rfl, rm, rs, hp⟩ := h
  exact ⟨m, sg, st, rfl, rm, rs, hp.bindc fun m1 l vs st1 e1 r1 q1 hp1 => hs m1 st1 σ l vs Q r1 q1 hp1⟩
theorem se_callB {id : String} {r : List V → Hp → VK → Prop} {sem : List D → Sto → Res D} (hc : CallR X (.builtin id) r) (hs : FitsL X W r sem) (hg : Gl X x) (hm : X.mg x = none) (hv : bootBuiltins x = some (.builtin id)) (ha : SA X W (e :: es) g) (hn : x ≠ "__name__" := by decide) (hdb : (x == ("__debug__" : Str)) = false := by decide)
    (he : starEach (e :: es) X.env = (false, eval e X.env) :: starEach es X.env := by rfl) (hpl : (backTo pos (starEach es X.env)).any (·.1) = false := by rfl) : SE X W (.Call (.Name x p) (e :: es) [] pos) (fCall sem g) :=
  pe_weak (pe_callB hc hg hm hv ha hn hdb he hpl) fun _ _ _ h => tCB_of hs h
theorem se_callTy {T : String} {r : List V → Hp → VK → Prop} {sem : List D → Sto → Res D} (hc : CallR X (.type T) r) (hs : FitsL X W r sem) (hg : Gl X x) (hm : X.mg x = none) (hv : bootBuiltins x = some (.type T)) (ha : SA X W (e :: es) g) (hn : x ≠ "__name__" := by decide) (hdb : (x == ("__debug__" : Str)) = false := by decide)
    (he : starEach (e :: es) X.env = (false, eval e X.env) :: starEach es X.env := by rfl) (hpl : (backTo pos (starEach es X.env)).any (·.1) = false := by rfl) : SE X W (.Call (.Name x p) (e :: es) [] pos) (fCall sem g) :=
  pe_weak (pe_callTy hc hg hm hv ha hn hdb he hpl) fun _ _ _ h => tCB_of hs h
theorem reps1 {m : Hw} {d : D} {vs : List V} (h : Reps X.K X.mg m.r m.g [d] vs) : ∃ v, vs = [v] ∧ Rep X.K X.mg m.r m.g d v := by
  cases h with
  | cons h1 h2 => cases h2; exact ⟨_, rfl, h1⟩
theorem reps2 {m : Hw} {d d' : D} {vs : List V} (h : Reps X.K X.mg m.r m.g [d, d'] vs) : ∃ v w, vs = [v, w] ∧ Rep X.K X.mg m.r m.g d v ∧ Rep X.K X.mg m.r m.g d' w := by
  cases h with
  | cons h1 h2 => cases h2 with
    | cons h3 h4 => cases h4; exact ⟨_, _, rfl, h1, h3⟩
def lenOf : D → Sto → Option Nat
  | .str x, _ => if x.length ≤ 16777216 then some x.length else none
  | .loc n, st => match st[n]? with
    | some (.lst l) => some l.length
    | some (.dict l) => some l.length
    | _ => none
  | x, st => (itemsOf x st).map List.length
def bLen : List D → Sto → Res D
  | [x], st => match lenOf x st with
    | some n => .ok (.int n) st
    | none => .bad
  | _, _ => .bad
theorem call_lenA : CallR X (.builtin "len") (fun xs H Q => (∃ x n, xs = [x] ∧ LenV X.K x H n ∧ Q (.int n) H) ∨ ∃ a kvs, xs = [V.ref a] ∧ H a = some (.dK kvs) ∧ Q (.int kvs.length) H) := call_len.or call_lenD
theorem fits_len : FitsL X W (fun xs H Q => (∃ x n, xs = [x] ∧ LenV X.K x H n ∧ Q (.int n) H) ∨ ∃ a kvs, xs = [V.ref a] ∧ H a = some (.dK kvs) ∧ Q (.int kvs.length) H) bLen := by
  intro m st σ l vs Q rm ra hp
  have seq : ∀ {x : D} {v : V} {l' : List D}, Rep X.K X.mg m.r m.g x v → itemsOf x st = some l' → LenV X.K v m.h l'.length := fun h e => by
    obtain ⟨p, vs, rfl, hs, hr⟩ := items_of rm h e
    rw [hr.length]
    rcases hs with hs | hs
    · exact .inl ⟨_, hs, rfl⟩
    · exact .inr ⟨_, hs, rfl⟩
  unfold bLen at hp
  split at hp
  · rename_i x st'
    obtain ⟨v, rfl, hv⟩ := reps1 ra
    split at hp
    · rename_i n hn
      have fin := hp.okc rm (.int _)
      unfold lenOf at hn
      split at hn
      · cases hv
        split at hn
        · rename_i hl
          cases hn
          exact .inl ⟨_, _, rfl, ⟨le_line.mp hl, rfl⟩, fin⟩
        · cases hn
      · split at hn
        · rename_i l h2
          cases hn
          exact .inl ⟨_, _, rfl, seq hv (by simp [itemsOf, h2]), fin⟩
        · rename_i l h2
          cases hn
          cases hv with
          | loc h1 =>
            obtain ⟨kvs, h3, h4, _⟩ := rm.obj _ _ _ h1 h2
            have : kvs.length = l.length := by have := congrArg List.length h4; simpa using this
            exact .inr ⟨_, kvs, rfl, h3, by rw [this]; exact fin⟩
        · cases hn
      · obtain ⟨l', h1, h2⟩ := Option.map_eq_some_iff.mp hn
        subst h2
        exact .inl ⟨_, _, rfl, seq hv h1, fin⟩
    · exact False.elim hp
  · exact False.elim hp
def bAbs : List D → Sto → Res D
  | [.int i], st => .ok (.int (if i < 0 then -i else i)) st
  | _, _ => .bad
theorem fits_abs : FitsL X W (fun xs H Q => ∃ i, xs = [.int i] ∧ Q (.int (if i < 0 then -i else i)) H) bAbs := by
  intro m st σ l vs Q rm ra hp
  unfold bAbs at hp
  split at hp
  · obtain ⟨v, rfl, hv⟩ := reps1 ra
    cases hv
    exact ⟨_, rfl, hp.okc rm (.int _)⟩
  · exact False.elim hp
def bMax : List D → Sto → Res D
  | [.int i, .int j], st => .ok (.int (if j > i then j else i)) st
  | _, _ => .bad
def bMin : List D → Sto → Res D
  | [.int i, .int j], st => .ok (.int (if j < i then j else i)) st
  | _, _ => .bad
theorem fits_max : FitsL X W (fun xs H Q => ∃ i j, xs = [.int i, .int j] ∧ Q (.int (if j > i then j else i)) H) bMax := by
  intro m st σ l vs Q rm ra hp
  unfold bMax at hp
  split at hp
  · obtain ⟨v, w, rfl, hv, hw⟩ := reps2 ra
    cases hv; cases hw
    exact ⟨_, _, rfl, hp.okc rm (.int _)⟩
  · exact False.elim hp
theorem fits_min : FitsL X W (fun xs H Q => ∃ i j, xs = [.int i, .int j] ∧ Q (.int (if j < i then j else i)) H) bMin := by
  intro m st σ l vs Q rm ra hp
  unfold bMin at hp
  split at hp
  · obtain ⟨v, w, rfl, hv, hw⟩ := reps2 ra
    cases hv; cases hw
    exact ⟨_, _, rfl, hp.okc rm (.int _)⟩
  · exact False.elim hp
def bInt : List D → Sto → Res D
  | [.int i], st => .ok (.int i) st
  | [.bl b], st => .ok (.int (if b then 1 else 0)) st
  | _, _ => .bad
theorem fits_int : FitsL X W (fun xs H Q => (∃ i, xs = [.int i] ∧ Q (.int i) H) ∨ ∃ k, xs = [.bl k] ∧ Q (.int (if k then 1 else 0)) H) bInt := by
  intro m st σ l vs Q rm ra hp
  unfold bInt at hp
  split at hp
  · obtain ⟨v, rfl, hv⟩ := reps1 ra
    cases hv
    exact .inl ⟨_, rfl, hp.okc rm (.int _)⟩
  · obtain ⟨v, rfl, hv⟩ := reps1 ra
    cases hv
    exact .inr ⟨_, rfl, hp.okc rm (.int _)⟩
  · exact False.elim hp
/-! isinstance(x, T), T a built-in class: what the type of a value is -/
def tyD : D → Sto → Option String
  | .non, _ => some "NoneType"
  | .bl _, _ => some "bool"
  | .int _, _ => some "int"
  | .str _, _ => some "str"
  | .tup _, _ => some "tuple"
  | .lst _, _ => some "list"
  | .edict, _ => some "dict"
  | .loc n, st => match st[n]? with
    | some (.lst _) => some "list"
    | some (.dict _) => some "dict"
    | _ => none
  | _, _ => none
theorem ty_of {m : Hw} {st : Sto} {d : D} {v : V} {t : String} (rm : Rel X.K X.mg m st) (h : Rep X.K X.mg m.r m.g d v) (e : tyD d st = some t) : TyX X.K m.h v (.type t) := by
  unfold tyD at e
  split at e
  · cases h; cases e; exact .base .non
  · cases h; cases e; exact .base (.bl _)
  · cases h; cases e; exact .base (.int _)
  · cases h; cases e; exact .base (.str _)
  · cases e
    cases h with
    | tup h1 h2 =>
      rcases sqT_mono rm.sub h1 with (h | ⟨o, h⟩) | ⟨o, its, n, k1, k2, _⟩
      · exact .base (.tup h)
      · exact .fTuple h
      · exact .kTuple k1 k2
  · cases e
    cases h with
    | lst h1 h2 => exact .base (.lst (rm.sub _ _ h1))
  · cases e
    cases h with
    | edict h1 => exact .base (.dK (rm.sub _ _ h1))
  · cases h with
    | loc h1 =>
      split at e
      · rename_i l h2
        cases e
        obtain ⟨vs, h3, _⟩ := rm.obj _ _ _ h1 h2
        exact .base (.lst h3)
      · rename_i l h2
        cases e
        obtain ⟨vs, h3, _⟩ := rm.obj _ _ _ h1 h2
        exact .base (.dK h3)
      · cases e
  · cases e
/-- the class of an instance -/
def clsD : D → Sto → Option Nat
  | .ins c _, _ => some c
  | .loc n, st => match st[n]? with
    | some (.ins c _) => some c
    | _ => none
  | _, _ => none
/-- what the text says of a class, for isinstance of its instances -/
structure InsC (K : PySem.W.Frag) (C : Addr) : Prop where
  cl : Cls K C
  ha : PySem.W.findIn K (.ref C) "__class__" = some (some (.builtin "object.__class__"))
  hn : PySem.W.specialIn K (.builtin "object.__class__") "__get__" = some (some (.builtin "getset_descriptor.__get__"))
  ht : PySem.W.takesIn K (.builtin "object.__class__") = some true
  hm : PySem.W.mroIn K C (.type "object") = some true
theorem cls_of {m : Hw} {st : Sto} {d : D} {v : V} {c : Nat} {C : Addr} (rm : Rel X.K X.mg m st) (h : Rep X.K X.mg m.r m.g d v) (e : clsD d st = some c) (hc : X.mg (cName c) = some (.ref C)) (I : InsC X.K C) : TyX X.K m.h v (.ref C) := by
  unfold clsD at e
  split at e
  · cases e
    cases h with
    | ins h1 h2 h3 h4 =>
      rw [hc] at h1
      cases h1
      exact .base (.ins (rm.sub _ _ h2) I.cl I.ha I.hn I.ht I.hm)
  · cases h with
    | loc h1 =>
      split at e
      · rename_i c' l h2
        cases e
        obtain ⟨C', dx, fs, h3, h4, _⟩ := rm.obj _ _ _ h1 h2
        rw [hc] at h3
        cases h3
        exact .base (.ins h4 I.cl I.ha I.hn I.ht I.hm)
      · cases e
  · cases e
/-- isinstance(x, T): T a built-in class by its name; tb: whether a built-in type's values are, cl: the classes that are asked and whether their instances are -/
def bIsi (tb : String → Option Bool) (cl : List (Nat × Bool)) : D → Sto → Res D := fun x st => match tyD x st with
  | some t => match tb t with
    | some b => .ok (.bl b) st
    | none => .bad
  | none => match clsD x st with
    | some c => match cl.lookup c with
      | some b => .ok (.bl b) st
      | none => .bad
    | none => .bad
/-- the classes' facts -/
def IsiC (X : Cx) (u : Value) : List (Nat × Bool) → Prop
  | [] => True
  | (c, b) :: l => (∃ C, X.mg (cName c) = some (.ref C) ∧ InsC X.K C ∧ PySem.W.kitOne X.K (.ref C) u = some b) ∧ IsiC X u l
theorem IsiC.get {u : Value} : ∀ {l : List (Nat × Bool)} {c : Nat} {b : Bool}, IsiC X u l → l.lookup c = some b → ∃ C, X.mg (cName c) = some (.ref C) ∧ InsC X.K C ∧ PySem.W.kitOne X.K (.ref C) u = some b
  | [], _, _, _, e => by simp at e
  | (c', b') :: l, c, b, h, e => by
    rw [List.lookup_cons] at e
    by_cases z : c = c'
    · subst z
      simp at e
      subst e
      exact h.1
    · have : (c == c') = false := by simpa using z
      rw [this] at e
      exact IsiC.get h.2 e
@[simp] def fIsi (tb : String → Option Bool) (cl : List (Nat × Bool)) (fo : EF) : EF := fun sg st => (fo sg st).bind fun x st1 => bIsi tb cl x st1
theorem se_isi {tb : String → Option Bool} {cl : List (Nat × Bool)} {c : V} {u : Value} {e2 : Expr} (hg : Gl X "isinstance") (hm : X.mg "isinstance" = none) (ho : SE X W o fo) (h2 : PE X e2 (tC c)) (hu : ClsV c u) (htb : ∀ t b, tb t = some b → PySem.W.kitOne X.K (.type t) u = some b) (hcl : IsiC X u cl)
    (he : starEach (o :: [e2]) X.env = (false, eval o X.env) :: starEach [e2] X.env := by rfl) (hpl : (backTo pos (starEach [e2] X.env)).any (·.1) = false := by rfl) (hs : starEach (e2 :: []) X.env = (false, eval e2 X.env) :: starEach [] X.env := by rfl) :
    SE X W (.Call (.Name "isinstance" p) [o, e2] [] pos) (fIsi tb cl fo) :=
  pe_weak (pe_callB call_isi hg hm (by decide +kernel) (pa_cons ho (pa_cons h2 pa_nil hs) he) (by decide) (by decide) he hpl) fun σ H Q ⟨m, sg, st, e, rm, rs, hp⟩ => ⟨m, sg, st, e, rm, rs, hp.bindc fun m1 x v st1 e1 r1 q1 hp1 => by
    unfold bIsi at hp1
    split at hp1
    · rename_i t ht
      split at hp1
      · rename_i b hb
        exact ⟨_, _, _, _, _, rfl, hu, ty_of r1 q1 ht, htb _ _ hb, hp1.okc r1 (.bl _)⟩
      · exact False.elim hp1
    · split at hp1
      · rename_i c' hc'
        split at hp1
        · rename_i b hb
          obtain ⟨C, k1, k2, k3⟩ := hcl.get hb
          exact ⟨_, _, _, _, _, rfl, hu, cls_of r1 q1 hc' k1 k2, k3, hp1.okc r1 (.bl _)⟩
        · exact False.elim hp1
      · exact False.elim hp1⟩

/-! own defs: the promise -/
theorem Post.conv {α β : Type} {K : PySem.W.Frag} {mg : Str → Option Value} {m : Hw} {σ : St} {R : Hw → α → β → Prop} {Q : β → Hp → Prop} {r : Res α} (h : Post K mg W.w m σ R Q r) : Post K mg (fun c d _ H => W.w c d σ H) m [] R Q r := by
  cases r <;> exact h
def spF (K : PySem.W.Frag) (mg : Str → Option Value) (n : Nat) (F : FF) : Sp := fun vs H Q E => ∃ m ds st, m.h = H ∧ Rel K mg m st ∧ Reps K mg m.r m.g ds vs ∧ ds.length = n ∧ Post K mg (fun c d _ H => E c d H) m [] (RD K mg) Q (F ds st)
/-- default values: the values, what they mean -/
structure Dfl (K : PySem.W.Frag) (mg : Str → Option Value) (ds : List Value) (dvs : List V) (dds : List D) : Prop where
  v : Vals dvs ds
  r : ∀ r G, Reps K mg r G dds dvs
theorem Dfl.nil {K : PySem.W.Frag} {mg : Str → Option Value} : Dfl K mg [] [] [] := ⟨.nil, fun _ _ => .nil⟩
variable {k n : Nat} {fa C : Addr} {fd : FuncData} {ps : List Str} {F : FF} {dvs : List V} {ds : List Value} {dds : List D}
/-- a def called: as many arguments as parameters, with its defaults -/
def cF (F : FF) (n : Nat) (dds : List D) : FF := fun l st => if (l ++ dds).length = n then F (l ++ dds) st else .bad
theorem se_call (hF : FnOk X.prog X.w X.K X.mg X.base (L2.CX X.prog X.w) k fa fd ps (spF X.K X.mg n F)) (hr : Room k X.A) (tk : Takes X W.w) (hg : Gl X x) (hm : X.mg x = some (.ref fa)) (hk : PySem.W.keepIn X.K (.ref fa) = true) (hb : Binds X.K fd ps ds) (hd : Dfl X.K X.mg ds dvs dds)
    (ha : SA X W (e :: es) g) (hdb : (x == ("__debug__" : Str)) = false := by decide) (he : starEach (e :: es) X.env = (false, eval e X.env) :: starEach es X.env := by rfl) (hpl : (backTo pos (starEach es X.env)).any (·.1) = false := by rfl) :
    SE X W (.Call (.Name x p) (e :: es) [] pos) (fCall (cF F n dds) g) :=
  pe_weak (pe_callSD (E := WE W.w) hF hr hg hm hk hb hd.v (fun σ => passAt tk σ) ha hdb he hpl) fun σ H Q ⟨m, sg, st, e, rm, rs, hp⟩ => ⟨m, sg, st, e, rm, rs, hp.bindc fun m1 l vs st1 e1 r1 q1 hp1 => by
    unfold cF at hp1
    split at hp1
    · rename_i hl
      exact ⟨m1, l ++ dds, st1, rfl, r1, q1.append (hd.r _ _), hl, hp1.conv⟩
    · exact False.elim hp1⟩
theorem se_call0 (hF : FnOk X.prog X.w X.K X.mg X.base (L2.CX X.prog X.w) k fa fd ps (spF X.K X.mg n F)) (hr : Room k X.A) (tk : Takes X W.w) (hg : Gl X x) (hm : X.mg x = some (.ref fa)) (hk : PySem.W.keepIn X.K (.ref fa) = true) (hb : Binds X.K fd ps ds) (hd : Dfl X.K X.mg ds dvs dds)
    (hdb : (x == ("__debug__" : Str)) = false := by decide) : SE X W (.Call (.Name x p) [] [] pos) (fun _ st => cF F n dds [] st) := by
  refine ⟨fun pins s σ H Q I h => ?_⟩
  obtain ⟨m, sg, st, rfl, rm, rs, hp⟩ := h
  refine wpAny_Call_Name_kw (ld_glob I hg hm ?_ hdb)
  refine PySem.W.callWith_K0 I.kIn hk (run_fnSD (us := []) (vs := []) (E := WE W.w) hF hr hb hd.v (passAt tk σ) I .nil ?_)
  unfold cF at hp
  split at hp
  · rename_i hl
    exact ⟨m, dds, st, rfl, rm, hd.r _ _, hl, hp.conv⟩
  · exact False.elim hp
/-! objects -/
def insOf (c : Nat) : D → Sto → Option (List D)
  | .ins c' l, _ => if c' = c then some l else none
  | .loc n, st => match st[n]? with
    | some (.ins c' l) => if c' = c then some l else none
    | _ => none
  | _, _ => none
theorem ins_of {m : Hw} {st : Sto} {d : D} {v : V} {c : Nat} {l : List D} {C : Addr} (rm : Rel X.K X.mg m st) (h : Rep X.K X.mg m.r m.g d v) (e : insOf c d st = some l) (hc : X.mg (cName c) = some (.ref C)) :
    ∃ a dx fs, v = .ref a ∧ m.h a = some (.ins C dx fs) ∧ fs.map (·.1) = (cFlds c).take l.length ∧ Reps X.K X.mg m.r m.g l (fs.map (·.2)) := by
  unfold insOf at e
  split at e
  · split at e
    · rename_i hc'
      subst hc'
      cases e
      cases h with
      | ins h1 h2 h3 h4 =>
        rw [hc] at h1
        cases h1
        exact ⟨_, _, _, rfl, rm.sub _ _ h2, h3, h4⟩
    · cases e
  · cases h with
    | loc h1 =>
      split at e
      · rename_i c' l' h2
        split at e
        · rename_i hc'
          subst hc'
          cases e
          obtain ⟨C', dx, fs, h3, h4, h5, h6⟩ := rm.obj _ _ _ h1 h2
          rw [hc] at h3
          cases h3
          exact ⟨_, _, _, rfl, h4, h5, h6⟩
        · cases e
      · cases e
  · cases e
theorem lookup_at : ∀ {fs : List (Str × V)} {ns : List Str} {i : Nat} {f : Str} {v : V}, fs.map (·.1) = ns → ns.Nodup → ns[i]? = some f → (fs.map (·.2))[i]? = some v → fs.lookup f = some v
  | [], ns, i, f, v, h, _, e, _ => by simp at h; subst h; simp at e
  | (f', v') :: fs, ns, i, f, v, h, nd, e1, e2 => by
    simp at h
    subst h
    cases i with
    | zero =>
      simp at e1 e2
      subst e1; subst e2
      simp [List.lookup_cons]
    | succ i =>
      simp at e1 e2
      have hne : (f == f') = false := by
        have : f ≠ f' := fun z => by
          subst z
          exact (List.nodup_cons.mp nd).1 (List.mem_of_getElem? (i := i) (by simpa using e1))
        simpa using this
      rw [List.lookup_cons, hne]
      refine lookup_at rfl (List.nodup_cons.mp nd).2 (i := i) ?_ ?_
      · simpa using e1
      · simpa using e2
theorem lookup_none {fs : List (Str × V)} {ns : List Str} {f : Str} (h : fs.map (·.1) = ns) (hn : f ∉ ns) : fs.lookup f = none := by
  rw [List.lookup_eq_none_iff]
  intro p hp
  have : p.1 ∈ ns := by rw [← h]; exact List.mem_map_of_mem hp
  have : f ≠ p.1 := fun z => hn (z ▸ this)
  simpa using this
@[simp] def fFld (c i : Nat) (fo : EF) : EF := fun sg st => (fo sg st).bind fun x st1 => match insOf c x st1 with
  | some l => match l[i]? with
    | some d => .ok d st1
    | none => .bad
  | none => .bad
theorem take_at {l : List Str} {n i : Nat} {f : Str} (h : l[i]? = some f) (hi : i < n) : (l.take n)[i]? = some f := by
  rw [List.getElem?_take_of_lt hi]; exact h
theorem se_fld {c i : Nat} (hc : X.mg (cName c) = some (.ref C)) (cl : Cls X.K C) (na : NoAttr X.K C m) (hf : (cFlds c)[i]? = some m) (hnd : (cFlds c).Nodup) (ho : SE X W o fo) (hb : attributeBase o m X.env (eval o X.env) = eval o X.env := by rfl) : SE X W (.Attribute o m pos) (fFld c i fo) :=
  pe_weak (pe_fld ho hb) fun σ H Q ⟨w, sg, st, e, rm, rs, hp⟩ => ⟨w, sg, st, e, rm, rs, hp.bindc fun m1 x v st1 e1 r1 q1 hp1 => by
    split at hp1
    · rename_i l hl
      split at hp1
      · rename_i d hd
        obtain ⟨a, dx, fs, rfl, h1, h2, h3⟩ := ins_of r1 q1 hl hc
        obtain ⟨v, h4, h5⟩ := h3.get hd
        have hi : i < l.length := (List.getElem?_eq_some_iff.mp hd).1
        exact ⟨a, C, dx, fs, v, rfl, h1, cl, na, lookup_at h2 (hnd.sublist (List.take_sublist _ _)) (take_at hf hi) h4, hp1.okc r1 h5⟩
      · exact False.elim hp1
    · exact False.elim hp1⟩
/-! methods -/
@[simp] def fMeth (c : Nat) (F : FF) (n : Nat) (dds : List D) (fo : EF) (g : AF) : EF := fun sg st => (fo sg st).bind fun x st1 => match insOf c x st1 with
  | some _ => (g sg st1).bind fun l st2 => cF F n dds (x :: l) st2
  | none => .bad
/-- a bound method runs -/
theorem run_meth {σ : St} {Q : VK} {pins : List (Addr × Obj)} {a : Addr} {us : List Value} {s2 : Shared} {m1 m2 : Hw} {l : List D} {vs : List V} {st2 : Sto} {d : D}
    (hF : FnOk X.prog X.w X.K X.mg X.base (L2.CX X.prog X.w) k fa fd ps (spF X.K X.mg n F)) (hr : Room k X.A) (tk : Takes X W.w) (hb : Binds X.K fd ps ds) (hd : Dfl X.K X.mg ds dvs dds) (q1 : Rep X.K X.mg m1.r m1.g d (.ref a))
    (I2 : Inv X pins σ m2.h s2) (rv2 : Vals vs us) (e2 : Ext m1 m2) (r2 : Rel X.K X.mg m2 st2) (q2 : Reps X.K X.mg m2.r m2.g l vs) (hp2 : Post X.K X.mg W.w m2 σ (RD X.K X.mg) Q (cF F n dds (d :: l) st2)) :
    wpAny (model X.prog X.w) X.A (call (.ref fa) (Value.ref a :: us)) (EP X pins σ Q) X.xe s2 := by
  unfold cF at hp2
  split at hp2
  · rename_i hl
    exact run_fnSD (us := Value.ref a :: us) (vs := V.ref a :: vs) (E := WE W.w) hF hr hb hd.v (passAt tk σ) I2 (.cons rfl rv2) ⟨m2, d :: (l ++ dds), st2, rfl, r2, .cons (q1.mono e2) (q2.append (hd.r _ _)), by simpa using hl, hp2.conv⟩
  · exact False.elim hp2
def MPost (X : Cx) (W : We) (σ : St) (sg : Sg) (Q : VK) (k : D → Sto → Res D) : VK := fun v H1 => ∃ m1 x st1, m1.h = H1 ∧ Rel X.K X.mg m1 st1 ∧ SgRep X.K X.mg W.e m1 sg σ ∧ Rep X.K X.mg m1.r m1.g x v ∧ Post X.K X.mg W.w m1 σ (RD X.K X.mg) Q (k x st1)
theorem se_meth {c : Nat} {pl : Sem Bool} (hF : FnOk X.prog X.w X.K X.mg X.base (L2.CX X.prog X.w) k fa fd ps (spF X.K X.mg n F)) (hr : Room k X.A) (tk : Takes X W.w) (hc : X.mg (cName c) = some (.ref C)) (cl : Cls X.K C) (hme : Meth X.K C m fa) (hnf : m ∉ cFlds c) (hb : Binds X.K fd ps ds) (hd : Dfl X.K X.mg ds dvs dds)
    (ho : SE X W o fo) (ha : SA X W (e :: es) g) (hst : starEach (e :: es) X.env = (false, eval e X.env) :: starEach es X.env := by rfl) (hpl : (backTo pos (starEach es X.env)).any (·.1) = false := by rfl)
    (ht : eval (.Call (.Attribute o m apos) (e :: es) [] pos) X.env = (do
      let ov ← eval o X.env
      standAt apos.atName
      let (f, first) ← holding [ov] (getMethod ov m pl)
      callWith pos f first (backTo pos (starEach (e :: es) X.env)) (backToKw pos (keywordEach [] X.env))) := by rfl) :
    SE X W (.Call (.Attribute o m apos) (e :: es) [] pos) (fMeth c F n dds fo g) := by
  refine ⟨fun pins s σ H Q I h => ?_⟩
  obtain ⟨w, sg, st, rfl, rm, rs, hp⟩ := h
  refine PySem.W.methodCall_KW (pl := pl) (thn (ho.run pins s σ w.h (MPost X W σ sg Q fun x st1 => match insOf c x st1 with
    | some _ => (g sg st1).bind fun l st2 => cF F n dds (x :: l) st2
    | none => .bad) I ⟨w, sg, st, rfl, rm, rs, hp.bindc fun m1 x v st1 e1 r1 q1 hp1 => ⟨m1, x, st1, rfl, r1, rs.mono e1, q1, hp1⟩⟩) fun u s1 hh => ?_) ht
  obtain ⟨v, H1, I1, rv, m1, x, st1, rfl, r1, rs1, q1, hp1⟩ := hh
  dsimp only at hp1
  split at hp1
  · rename_i l0 hl0
    obtain ⟨a, dx, fs, rfl, h1, h2, h3⟩ := ins_of r1 q1 hl0 hc
    obtain rfl : u = Value.ref a := rv
    refine getmeth_ok I1 h1 cl hme (lookup_none h2 fun z => hnf (List.mem_of_mem_take z)) ?_
    refine PySem.W.callWith_K (first := [.ref a]) (h₀ := X.base) I1.ok.mod.kin hme.kp (thn (ha.run pos pins s1 σ m1.h (fun vs H2 => ∃ m2 l st2, m2.h = H2 ∧ Ext m1 m2 ∧ Rel X.K X.mg m2 st2 ∧ Reps X.K X.mg m2.r m2.g l vs ∧ Post X.K X.mg W.w m2 σ (RD X.K X.mg) Q (cF F n dds (x :: l) st2)) I1
      ⟨m1, sg, st1, rfl, r1, rs1, hp1.bindc fun m2 l vs st2 e2 r2 q2 hp2 => ⟨m2, l, st2, rfl, e2, r2, q2, hp2⟩⟩) fun us s2 hz => ?_) hst hpl
    obtain ⟨vs, H2, I2, rv2, m2, l, st2, rfl, e2, r2, q2, hp2⟩ := hz
    exact ⟨I2.kIn, run_meth hF hr tk hb hd q1 I2 rv2 e2 r2 q2 hp2⟩
  · exact False.elim hp1
theorem se_meth0 {c : Nat} {pl : Sem Bool} (hF : FnOk X.prog X.w X.K X.mg X.base (L2.CX X.prog X.w) k fa fd ps (spF X.K X.mg n F)) (hr : Room k X.A) (tk : Takes X W.w) (hc : X.mg (cName c) = some (.ref C)) (cl : Cls X.K C) (hme : Meth X.K C m fa) (hnf : m ∉ cFlds c) (hb : Binds X.K fd ps ds) (hd : Dfl X.K X.mg ds dvs dds)
    (ho : SE X W o fo)
    (ht : eval (.Call (.Attribute o m apos) [] [] pos) X.env = (do
      let ov ← eval o X.env
      standAt apos.atName
      let (f, first) ← holding [ov] (getMethod ov m pl)
      callWith pos f first (backTo pos (starEach [] X.env)) (backToKw pos (keywordEach [] X.env))) := by rfl) :
    SE X W (.Call (.Attribute o m apos) [] [] pos) (fMeth c F n dds fo aNil) := by
  refine ⟨fun pins s σ H Q I h => ?_⟩
  obtain ⟨w, sg, st, rfl, rm, rs, hp⟩ := h
  refine PySem.W.methodCall_KW (pl := pl) (thn (ho.run pins s σ w.h (MPost X W σ sg Q fun x st1 => match insOf c x st1 with
    | some _ => cF F n dds [x] st1
    | none => .bad) I ⟨w, sg, st, rfl, rm, rs, hp.bindc fun m1 x v st1 e1 r1 q1 hp1 => ⟨m1, x, st1, rfl, r1, rs.mono e1, q1, hp1⟩⟩) fun u s1 hh => ?_) ht
  obtain ⟨v, H1, I1, rv, m1, x, st1, rfl, r1, rs1, q1, hp1⟩ := hh
  dsimp only at hp1
  split at hp1
  · rename_i l0 hl0
    obtain ⟨a, dx, fs, rfl, h1, h2, h3⟩ := ins_of r1 q1 hl0 hc
    obtain rfl : u = Value.ref a := rv
    refine getmeth_ok I1 h1 cl hme (lookup_none h2 fun z => hnf (List.mem_of_mem_take z)) ?_
    exact PySem.W.callWith_K0 (first := [.ref a]) I1.kIn hme.kp (run_meth (us := []) hF hr tk hb hd q1 I1 .nil (Ext.refl m1) r1 .nil hp1)
  · exact False.elim hp1
end
end Sh
/-! Part E: statements, loops, comprehensions, defs. -/
namespace Sh
open PySem L2
def Res.flw {α : Type} (r : Res α) (sg : Sg) (k : α → Sto → Flw) : Flw := match r with
  | .ok a st => k a st
  | .exc c o st => .exc c o sg st
  | .bad => .bad
@[simp] theorem Res.flw_ok {α : Type} (a : α) (st : Sto) (sg : Sg) (k : α → Sto → Flw) : (Res.ok a st).flw sg k = k a st := rfl
@[simp] theorem Res.flw_exc {α : Type} (c : Nat) (o : Option D) (st : Sto) (sg : Sg) (k : α → Sto → Flw) : (Res.exc c o st : Res α).flw sg k = .exc c o sg st := rfl
@[simp] theorem Res.flw_bad {α : Type} (sg : Sg) (k : α → Sto → Flw) : (Res.bad : Res α).flw sg k = .bad := rfl
theorem Res.flw_cg {α : Type} {x y : Res α} {sg : Sg} {k : α → Sto → Flw} (h : x = y) : x.flw sg k = y.flw sg k := by rw [h]
def Flw.seq (x : Flw) (k : Sg → Sto → Flw) : Flw := match x with
  | .nx sg st => k sg st
  | r => r
@[simp] theorem Flw.seq_nx (sg : Sg) (st : Sto) (k : Sg → Sto → Flw) : (Flw.nx sg st).seq k = k sg st := rfl
@[simp] theorem Flw.seq_ret (d : D) (st : Sto) (k : Sg → Sto → Flw) : (Flw.ret d st).seq k = .ret d st := rfl
@[simp] theorem Flw.seq_brk (sg : Sg) (st : Sto) (k : Sg → Sto → Flw) : (Flw.brk sg st).seq k = .brk sg st := rfl
@[simp] theorem Flw.seq_cnt (sg : Sg) (st : Sto) (k : Sg → Sto → Flw) : (Flw.cnt sg st).seq k = .cnt sg st := rfl
@[simp] theorem Flw.seq_exc (c : Nat) (o : Option D) (sg : Sg) (st : Sto) (k : Sg → Sto → Flw) : (Flw.exc c o sg st).seq k = .exc c o sg st := rfl
@[simp] theorem Flw.seq_bad (k : Sg → Sto → Flw) : Flw.bad.seq k = .bad := rfl
theorem Flw.seq_cg {x y : Flw} {k : Sg → Sto → Flw} (h : x = y) : x.seq k = y.seq k := by rw [h]
def Flw.loop (x : Flw) (k : Sg → Sto → Flw) : Flw := match x with
  | .nx sg st => k sg st
  | .cnt sg st => k sg st
  | .brk sg st => .nx sg st
  | r => r
@[simp] theorem Flw.loop_nx (sg : Sg) (st : Sto) (k : Sg → Sto → Flw) : (Flw.nx sg st).loop k = k sg st := rfl
@[simp] theorem Flw.loop_ret (d : D) (st : Sto) (k : Sg → Sto → Flw) : (Flw.ret d st).loop k = .ret d st := rfl
@[simp] theorem Flw.loop_brk (sg : Sg) (st : Sto) (k : Sg → Sto → Flw) : (Flw.brk sg st).loop k = .nx sg st := rfl
@[simp] theorem Flw.loop_cnt (sg : Sg) (st : Sto) (k : Sg → Sto → Flw) : (Flw.cnt sg st).loop k = k sg st := rfl
@[simp] theorem Flw.loop_exc (c : Nat) (o : Option D) (sg : Sg) (st : Sto) (k : Sg → Sto → Flw) : (Flw.exc c o sg st).loop k = .exc c o sg st := rfl
@[simp] theorem Flw.loop_bad (k : Sg → Sto → Flw) : Flw.bad.loop k = .bad := rfl
theorem Flw.loop_cg {x y : Flw} {k : Sg → Sto → Flw} (h : x = y) : x.loop k = y.loop k := by rw [h]
@[simp] def sNil : SF := fun sg st => .nx sg st
@[simp] def sSeq (g h : SF) : SF := fun sg st => (g sg st).seq h
@[simp] def sDrop (f : EF) : SF := fun sg st => (f sg st).flw sg fun _ st1 => .nx sg st1
@[simp] def sSet (i : Nat) (f : EF) : SF := fun sg st => (f sg st).flw sg fun d st1 => .nx (sg.set i (some d)) st1
@[simp] def sRet (f : EF) : SF := fun sg st => (f sg st).flw sg fun d st1 => .ret d st1
@[simp] def sRetN : SF := fun _ st => .ret .non st
@[simp] def sIf (t : TF) (g h : SF) : SF := fun sg st => (t sg st).flw sg fun b st1 => if b = true then g sg st1 else h sg st1
@[simp] def sBrk : SF := fun sg st => .brk sg st
@[simp] def sCnt : SF := fun sg st => .cnt sg st
def whF (t : TF) (g : SF) : Nat → SF
  | 0, _, _ => .bad
  | n + 1, sg, st => (t sg st).flw sg fun b st1 => if b = true then (g sg st1).loop (whF t g n) else .nx sg st1
/-- more than any loop's turns; only its size is used -/
@[irreducible] def fuel : Nat := Nat.pow 2 4000
def sWhile (n : Nat) (t : TF) (g : SF) : SF := whF t g n

section
variable {X : Cx} {W : We} {e o a b c : Expr} {es : List Expr} {f fo fa fb : EF} {g : AF} {pos p apos pos' : Pos} {x : Str} {t : TF} {gs hs : SF} {st : Stmt} {rest body : List Stmt}
theorem flwc {α β : Type} {K : PySem.W.Frag} {mg : Str → Option Value} {m : Hw} {σ : St} {sg : Sg} {D : Ends} {r : Res α} {k : α → Sto → Flw} {R : Hw → α → β → Prop} {Q : β → Hp → Prop}
    (hp : PostS K mg W m D (r.flw sg k)) (rs : SgRep K mg W.e m sg σ) (h : ∀ m1 y v st1, Ext m m1 → Rel K mg m1 st1 → R m1 y v → PostS K mg W m1 D (k y st1) → Q v m1.h) : Post K mg W.w m σ R Q r := by
  cases r with
  | ok y st => exact fun m' v e r q => h m' y v st e r q (PostS.mono hp e)
  | exc c o st => exact fun m' cls dx e r q => hp m' σ cls dx e r (rs.mono e) q
  | bad => exact hp
theorem ss_nil : SSs X W [] sNil := pss_weak pss_nil fun D σ H ⟨m, sg, st, e, rm, rs, hp⟩ => by
  subst e; exact hp m σ (Ext.refl m) rm rs
theorem ss_cons (h1 : SS X W st gs) (h2 : SSs X W rest hs) : SSs X W (st :: rest) (sSeq gs hs) :=
  pss_weak (pss_cons h1 h2) fun D σ H ⟨m, sg, st, e, rm, rs, hp⟩ => ⟨m, sg, st, e, rm, rs, by
    unfold sSeq at hp
    cases q : gs sg st with
    | nx sg1 st1 =>
      rw [q] at hp
      exact fun m' σ' e' r' s' => ⟨m', sg1, st1, rfl, r', s', PostS.mono hp e'⟩
    | ret d st1 => rw [q] at hp; exact hp
    | brk sg1 st1 => rw [q] at hp; exact hp
    | cnt sg1 st1 => rw [q] at hp; exact hp
    | exc c o sg1 st1 => rw [q] at hp; exact hp
    | bad => rw [q] at hp; exact hp⟩
theorem ss_one (h1 : SS X W st gs) : SSs X W [st] gs := pss_one h1
theorem ss_drop (he : SE X W e f) (hs : swapsWith e none pos.line X.env = pure false := by rfl) : SS X W (.Expr e pos) (sDrop f) :=
  ps_weak (ps_expr he hs) fun D σ H ⟨m, sg, st, e, rm, rs, hp⟩ => ⟨m, sg, st, e, rm, rs, flwc hp rs fun m1 y v st1 e1 r1 q1 hp1 => hp1 m1 σ (Ext.refl _) r1 (rs.mono e1)⟩
theorem ss_set {i : Nat} (hN : X.N.Nodup) (hi : X.N[i]? = some x) (hx : Loc X.env.scope x) (he : SE X W e f) (hs : swapsWith e (some (.Name x pos')) pos.line X.env = pure false := by rfl) (hf : X.fn x = true ∨ X.env.scope.names.lookup x = some .local := by first | exact .inl rfl | exact .inr rfl | assumption) :
    SS X W (.Assign [.Name x pos'] e pos) (sSet i f) :=
  ps_weak (ps_set hN hi hx he hs hf) fun D σ H ⟨m, sg, st, e, rm, rs, hp⟩ => ⟨m, sg, st, e, rm, rs, flwc hp rs fun m1 y v st1 e1 r1 q1 hp1 => hp1 m1 _ (Ext.refl _) r1 ((rs.mono e1).set i q1)⟩
theorem ss_ret (he : SE X W e f) : SS X W (.Return (some e) pos) (sRet f) :=
  ps_weak (ps_ret he) fun D σ H ⟨m, sg, st, e, rm, rs, hp⟩ => ⟨m, sg, st, e, rm, rs, flwc hp rs fun m1 y v st1 e1 r1 q1 hp1 => hp1 m1 v (Ext.refl _) r1 q1⟩
theorem ss_retN : SS X W (.Return none pos) sRetN := ps_weak ps_retN fun D σ H ⟨m, sg, st, e, rm, rs, hp⟩ => by
  subst e; exact hp m .non (Ext.refl m) rm .non
theorem ss_pass : SS X W (.Pass pos) sNil := ps_weak ps_pass fun D σ H ⟨m, sg, st, e, rm, rs, hp⟩ => by
  subst e; exact hp m σ (Ext.refl m) rm rs
theorem ss_brk : SS X W (.Break pos) sBrk := ps_weak ps_break fun D σ H ⟨m, sg, st, e, rm, rs, hp⟩ => by
  subst e; exact hp m σ (Ext.refl m) rm rs
theorem ss_cnt : SS X W (.Continue pos) sCnt := ps_weak ps_continue fun D σ H ⟨m, sg, st, e, rm, rs, hp⟩ => by
  subst e; exact hp m σ (Ext.refl m) rm rs
theorem ss_if {p q : List Stmt} (hc : SB X W c t) (ha : SSs X W p gs) (hb : SSs X W q hs) : SS X W (.If c p q pos) (sIf t gs hs) :=
  ps_weak (ps_if hc ha hb) fun D σ H ⟨m, sg, st, e, rm, rs, hp⟩ => ⟨m, sg, st, e, rm, rs, flwc hp rs fun m1 y v st1 e1 r1 q1 hp1 => by
    cases q1
    cases y with
    | true => exact ⟨m1, sg, st1, rfl, r1, rs.mono e1, hp1⟩
    | false => exact ⟨m1, sg, st1, rfl, r1, rs.mono e1, hp1⟩⟩
/-- an unreachable statement -/
theorem ss_never : SS X W st fun _ _ => .bad := ps_weak ps_never fun D σ H ⟨m, sg, st, e, rm, rs, hp⟩ => hp
theorem ss_nevers : SSs X W rest fun _ _ => .bad := pss_weak pss_never fun D σ H ⟨m, sg, st, e, rm, rs, hp⟩ => hp
theorem loopc {K : PySem.W.Frag} {mg : Str → Option Value} {m : Hw} {D : Ends} {y : Flw} {k : Sg → Sto → Flw} {N : St → Hp → Prop} (hp : PostS K mg W m D (y.loop k))
    (h : ∀ m1 σ1 sg1 st1, Ext m m1 → Rel K mg m1 st1 → SgRep K mg W.e m1 sg1 σ1 → PostS K mg W m1 D (k sg1 st1) → N σ1 m1.h) : PostS K mg W m { D with nx := N, ct := N, bk := D.nx } y := by
  cases y with
  | nx sg st => exact fun m' σ' e r s => h m' σ' sg st e r s (PostS.mono hp e)
  | cnt sg st => exact fun m' σ' e r s => h m' σ' sg st e r s (PostS.mono hp e)
  | brk sg st => exact hp
  | ret d st => exact hp
  | exc c o sg st => exact hp
  | bad => exact hp
theorem ss_while {n : Nat} (hpo : PassesOwn (model X.prog X.w) X.A X.env X.xe) (hc : SB X W c t) (hb : SSs X W body gs) : SS X W (.While c body [] pos) (sWhile n t gs) :=
  ps_weak (ps_while hpo hc hb) fun D σ H ⟨m, sg, st, e, rm, rs, hp⟩ => by
    refine ⟨fun k σ H => ∃ m1 sg st, m1.h = H ∧ Rel X.K X.mg m1 st ∧ SgRep X.K X.mg W.e m1 sg σ ∧ PostS X.K X.mg W m1 D (whF t gs k sg st), ⟨n, m, sg, st, e, rm, rs, hp⟩, ?_⟩
    rintro k σ1 H1 ⟨m1, sg1, st1, rfl, r1, s1, p1⟩
    cases k with
    | zero => exact False.elim p1
    | succ k =>
      refine ⟨m1, sg1, st1, rfl, r1, s1, flwc p1 s1 fun m2 y v st2 e2 r2 q2 p2 => ?_⟩
      cases q2
      cases y with
      | true =>
        rw [if_pos rfl] at p2
        exact iteT ⟨fun σ' H' => ∃ m1 sg st, m1.h = H' ∧ Rel X.K X.mg m1 st ∧ SgRep X.K X.mg W.e m1 sg σ' ∧ PostS X.K X.mg W m1 D (whF t gs k sg st), fun σ' H' z => ⟨k, Nat.lt_succ_self k, z⟩, m2, sg1, st2, rfl, r2, s1.mono e2,
          loopc p2 fun m3 σ3 sg3 st3 e3 r3 s3 p3 => ⟨m3, sg3, st3, rfl, r3, s3, p3⟩⟩
      | false =>
        rw [if_neg Bool.false_ne_true] at p2
        exact iteF (p2 m2 σ1 (Ext.refl _) r2 (s1.mono e2))

/-! targets -/
inductive Tg1 where
  | nm (i : Nat)
  | tp (l : List Nat)
inductive Tg where
  | one (i : Nat)
  | many (l : List Nat)
  | nest (l : List Tg1)
@[simp] def setL : List Nat → List D → Sg → Option Sg
  | [], [], sg => some sg
  | i :: l, d :: r, sg => setL l r (sg.set i (some d))
  | _, _, _ => none
@[simp] def setN : List Tg1 → List D → Sg → Option Sg
  | [], [], sg => some sg
  | .nm i :: l, d :: r, sg => setN l r (sg.set i (some d))
  | .tp is :: l, .tup ds :: r, sg => match setL is ds sg with
    | some sg1 => setN l r sg1
    | none => none
  | _, _, _ => none
@[simp] def setT : Tg → D → Sg → Option Sg
  | .one i, d, sg => some (sg.set i (some d))
  | .many l, .tup ds, sg => setL l ds sg
  | .nest l, .tup ds, sg => setN l ds sg
  | _, _, _ => none
def gNs : List Nat → TGs
  | [] => gNil
  | i :: l => gCons (gName i) (gNs l)
def gN1 (K : PySem.W.Frag) : Tg1 → TG
  | .nm i => gName i
  | .tp l => gTup K l.length (gNs l)
def gNn (K : PySem.W.Frag) : List Tg1 → TGs
  | [] => gNil
  | t :: l => gCons (gN1 K t) (gNn K l)
def gTg (K : PySem.W.Frag) : Tg → TG
  | .one i => gName i
  | .many l => gTup K l.length (gNs l)
  | .nest l => gTup K l.length (gNn K l)
def tgSl1 : Tg1 → List Nat
  | .nm i => [i]
  | .tp l => l
def tgSl : Tg → List Nat
  | .one i => [i]
  | .many l => l
  | .nest l => l.flatMap tgSl1
def setV : List Nat → List V → St → St
  | i :: l, v :: r, σ => setV l r (σ.set i (some v))
  | _, _, σ => σ
theorem gNs_of {H : Hp} {Q : St → Hp → Prop} : ∀ {l : List Nat} {vs : List V} {σ : St}, vs.length = l.length → Q (setV l vs σ) H → gNs l vs σ H Q
  | [], [], σ, _, h => ⟨rfl, h⟩
  | i :: l, v :: vs, σ, e, h => ⟨v, vs, rfl, gNs_of (by simpa using e) h⟩
  | [], _ :: _, _, e, _ => by simp at e
  | _ :: _, [], _, e, _ => by simp at e
theorem setL_rep {K : PySem.W.Frag} {mg : Str → Option Value} {y : Option Ex} {m : Hw} : ∀ {l : List Nat} {ds : List D} {vs : List V} {sg sg' : Sg} {σ : St}, setL l ds sg = some sg' → Reps K mg m.r m.g ds vs → SgRep K mg y m sg σ → SgRep K mg y m sg' (setV l vs σ) ∧ vs.length = l.length
  | [], [], _, sg, sg', σ, h, r, s => by
    cases r
    simp at h; subst h
    exact ⟨s, rfl⟩
  | i :: l, d :: ds, _, sg, sg', σ, h, r, s => by
    cases r with
    | cons r1 r2 =>
      obtain ⟨h1, h2⟩ := setL_rep (l := l) (by simpa using h) r2 (s.set i r1)
      exact ⟨h1, by simp [h2]⟩
  | [], _ :: _, _, _, _, _, h, _, _ => by simp at h
  | _ :: _, [], _, _, _, _, h, _, _ => by simp at h
theorem wipe_set {σ : St} {i : Nat} {v : Option V} : ∀ {vs : List Nat}, i ∈ vs → wipe (σ.set i v) vs = wipe σ vs
  | [], h => by simp at h
  | j :: vs, h => by
    unfold wipe
    by_cases e : i ∈ vs
    · rw [wipe_set e]
    · have : i = j := by
        rcases List.mem_cons.mp h with h | h
        · exact h
        · exact absurd h e
      subst this
      have : ∀ {σ : St} {vs : List Nat}, i ∉ vs → (wipe (σ.set i v) vs).set i none = (wipe σ vs).set i none := by
        intro σ vs
        induction vs with
        | nil => intro _; unfold wipe; rw [List.set_set]
        | cons k vs ih =>
          intro hk
          have h1 : i ≠ k := fun z => hk (by simp [z])
          have h2 : i ∉ vs := fun z => hk (List.mem_cons_of_mem _ z)
          unfold wipe
          rw [List.set_comm _ _ (Ne.symm h1), ih h2, List.set_comm _ _ h1]
      exact this e
theorem wipe_setV : ∀ {l : List Nat} {vs : List V} {σ : St} {ws : List Nat}, (∀ i ∈ l, i ∈ ws) → wipe (setV l vs σ) ws = wipe σ ws
  | [], _, _, _, _ => rfl
  | i :: l, [], _, _, _ => rfl
  | i :: l, v :: vs, σ, ws, h => by
    show wipe (setV l vs (σ.set i (some v))) ws = _
    rw [wipe_setV fun j hj => h j (List.mem_cons_of_mem _ hj), wipe_set (h i List.mem_cons_self)]
theorem gNn_of {K : PySem.W.Frag} {mg : Str → Option Value} {y : Option Ex} {m : Hw} {s : Sto} {ws : List Nat} {Q : St → Hp → Prop} (rm : Rel K mg m s) : ∀ {l : List Tg1} {ds : List D} {vs : List V} {sg sg' : Sg} {σ : St}, setN l ds sg = some sg' → Reps K mg m.r m.g ds vs → SgRep K mg y m sg σ →
    (∀ σ', SgRep K mg y m sg' σ' → ((∀ i ∈ l.flatMap tgSl1, i ∈ ws) → wipe σ' ws = wipe σ ws) → Q σ' m.h) → gNn K l vs σ m.h Q ∧ vs.length = l.length
  | [], [], _, sg, sg', σ, h, r, q, k => by
    cases r
    simp at h; subst h
    exact ⟨⟨rfl, k _ q fun _ => rfl⟩, rfl⟩
  | .nm i :: l, d :: ds, _, sg, sg', σ, h, r, q, k => by
    cases r with
    | cons r1 r2 =>
      obtain ⟨h1, h2⟩ := gNn_of (l := l) (Q := Q) rm (by simpa using h) r2 (q.set i r1) fun σ' s' hw => k σ' s' fun z => by
        rw [hw fun j hj => z j (by simp at hj ⊢; exact .inr hj), wipe_set (z i (by simp [tgSl1]))]
      exact ⟨⟨_, _, rfl, h1⟩, by simp [h2]⟩
  | .tp is :: l, .tup xs :: ds, _, sg, sg', σ, h, r, q, k => by
    cases r with
    | cons r1 r2 =>
      cases r1 with
      | tup a1 a2 =>
        unfold setN at h
        split at h
        · rename_i sg1 hs
          obtain ⟨b1, b2⟩ := setL_rep hs a2 q
          obtain ⟨h1, h2⟩ := gNn_of (l := l) (Q := Q) rm h r2 b1 fun σ' s' hw => k σ' s' fun z => by
            rw [hw fun j hj => z j (by simp at hj ⊢; exact .inr hj), wipe_setV fun i hi => z i (by simp [tgSl1, hi])]
          exact ⟨⟨_, _, rfl, ⟨_, _, rfl, sqT_mono rm.sub a1, b2, gNs_of b2 h1⟩⟩, by simp [h2]⟩
        · cases h
  | [], _ :: _, _, _, _, _, h, _, _, _ => by simp at h
  | .nm _ :: _, [], _, _, _, _, h, _, _, _ => by simp at h
  | .tp _ :: _, [], _, _, _, _, h, _, _, _ => by simp at h
  | .tp _ :: _, .non :: _, _, _, _, _, h, _, _, _ => by simp at h
  | .tp _ :: _, .bl _ :: _, _, _, _, _, h, _, _, _ => by simp at h
  | .tp _ :: _, .int _ :: _, _, _, _, _, h, _, _, _ => by simp at h
  | .tp _ :: _, .str _ :: _, _, _, _, _, h, _, _, _ => by simp at h
  | .tp _ :: _, .lst _ :: _, _, _, _, _, h, _, _, _ => by simp at h
  | .tp _ :: _, .ins _ _ :: _, _, _, _, _, h, _, _, _ => by simp at h
  | .tp _ :: _, .loc _ :: _, _, _, _, _, h, _, _, _ => by simp at h
  | .tp _ :: _, .scr _ :: _, _, _, _, _, h, _, _, _ => by simp at h
  | .tp _ :: _, .edict :: _, _, _, _, _, h, _, _, _ => by simp at h
theorem tg_of {K : PySem.W.Frag} {mg : Str → Option Value} {y : Option Ex} {m : Hw} {s : Sto} {sg sg' : Sg} {σ : St} {t : Tg} {d : D} {v : V} {ws : List Nat} {Q : St → Hp → Prop} (rm : Rel K mg m s) (h : setT t d sg = some sg') (r : Rep K mg m.r m.g d v) (q : SgRep K mg y m sg σ)
    (k : ∀ σ', SgRep K mg y m sg' σ' → ((∀ i ∈ tgSl t, i ∈ ws) → wipe σ' ws = wipe σ ws) → Q σ' m.h) : gTg K t v σ m.h Q := by
  cases t with
  | one i =>
    simp at h
    subst h
    exact k _ (q.set i r) fun z => wipe_set (z i (by simp [tgSl]))
  | many l =>
    cases d with
    | tup ds =>
      cases r with
      | tup r1 r2 =>
        obtain ⟨h1, h2⟩ := setL_rep (by simpa using h) r2 q
        exact ⟨_, _, rfl, sqT_mono rm.sub r1, h2, gNs_of h2 (k _ h1 fun z => wipe_setV fun i hi => z i hi)⟩
    | _ => simp at h
  | nest l =>
    cases d with
    | tup ds =>
      cases r with
      | tup r1 r2 =>
        obtain ⟨h1, h2⟩ := gNn_of (Q := Q) rm (by simpa using h) r2 q k
        exact ⟨_, _, rfl, sqT_mono rm.sub r1, h2, h1⟩
    | _ => simp at h
@[simp] def sAsg (t : Tg) (f : EF) : SF := fun sg st => (f sg st).flw sg fun d st1 => match setT t d sg with
  | some sg1 => .nx sg1 st1
  | none => .bad
theorem ss_asg {tg : Expr} {t : Tg} (hg : PG X tg (gTg X.K t)) (he : SE X W e f) (hs : swapsWithSole [tg] e pos.line X.env = pure false := by rfl) (hw : swappedStores [tg] e X.env = pure none := by rfl) (h1 : (assignEach [tg] X.env).map (·.2) = [assign tg X.env] := by rfl) : SS X W (.Assign [tg] e pos) (sAsg t f) :=
  ps_weak (ps_asg he hg hs hw h1) fun D σ H ⟨m, sg, st, e, rm, rs, hp⟩ => ⟨m, sg, st, e, rm, rs, flwc hp rs fun m1 y v st1 e1 r1 q1 hp1 => by
    split at hp1
    · rename_i sg1 h
      exact tg_of (ws := []) r1 h q1 (rs.mono e1) fun σ' s' _ => hp1 m1 σ' (Ext.refl _) r1 s'
    · exact False.elim hp1⟩
/-- a, b = x, y -/
@[simp] def sPar (i j : Nat) (g : AF) : SF := fun sg st => (g sg st).flw sg fun l st1 => match l with
  | [d, d'] => .nx ((sg.set i (some d)).set j (some d')) st1
  | _ => .bad
theorem ss_par {i j : Nat} {x y : Str} {px py pt : Pos} {kt k2 pt2} (hc : X.calm = true) (hN : X.N.Nodup) (hi : X.N[i]? = some x) (hj : X.N[j]? = some y) (hij : i ≠ j)
    (hx : X.env.scope.names.lookup x = some .local) (hy : X.env.scope.names.lookup y = some .local) (ha : SA X W [a, b] g)
    (hw : swappedStores [.Tuple [.Name x px, .Name y py] kt pt] (.Tuple [a, b] k2 pt2) X.env = pure (some [x, y]))
    (hs : swapsWithSole [.Tuple [.Name x px, .Name y py] kt pt] (.Tuple [a, b] k2 pt2) pos.line X.env = pure false := by rfl) : SS X W (.Assign [.Tuple [.Name x px, .Name y py] kt pt] (.Tuple [a, b] k2 pt2) pos) (sPar i j g) :=
  ps_weak (ps_par hc hN hi hj hij hx hy ha hw hs) fun D σ H ⟨m, sg, st, e, rm, rs, hp⟩ => ⟨m, sg, st, e, rm, rs, flwc hp rs fun m1 l vs st1 e1 r1 q1 hp1 => by
    split at hp1
    · obtain ⟨v, w, rfl, h1, h2⟩ := reps2 (X := X) q1
      exact ⟨v, w, rfl, hp1 m1 _ (Ext.refl _) r1 (((rs.mono e1).set i h1).set j h2)⟩
    · exact False.elim hp1⟩
/-- x += e -/
@[simp] def sAug (i : Nat) (sem : D → D → Sto → Res D) (f : EF) : SF := fun sg st => match sg[i]? with
  | some (some x) => ((f sg st).bind fun y st1 => sem x y st1).flw sg fun d st1 => .nx (sg.set i (some d)) st1
  | _ => .bad
theorem ss_aug {i : Nat} {op : Operator} {r : TIp} {sem : D → D → Sto → Res D} (hN : X.N.Nodup) (hi : X.N[i]? = some x) (hx : Loc X.env.scope x) (ho : PIp X op r) (hs : Fits2 X W r sem) (he : SE X W e f) (hf : X.fn x = true ∨ X.env.scope.names.lookup x = some .local := by first | exact .inl rfl | exact .inr rfl | assumption) :
    SS X W (.AugAssign (.Name x pos') op e pos) (sAug i sem f) :=
  ps_weak (ps_aug hN hi hx he ho hf) fun D σ H ⟨m, sg, st, e, rm, rs, hp⟩ => by
    unfold sAug at hp
    split at hp
    · rename_i d q
      obtain ⟨v, h1, h2⟩ := rs.2.1 i d q
      refine ⟨v, h1, m, sg, st, e, rm, rs, ?_⟩
      have hp' := flwc (R := RD X.K X.mg) (Q := fun z H3 => D.nx (σ.set i (some z)) H3) hp rs fun m1 y v st1 e1 r1 q1 hp1 => hp1 m1 _ (Ext.refl _) r1 ((rs.mono e1).set i q1)
      exact hp'.bindc fun m1 y w st1 e1 r1 q1 hp1 => hs m1 st1 σ d y v w _ r1 (h2.mono e1) q1 hp1
    · exact False.elim hp
def dAddI : D → D → Sto → Res D
  | .int i, .int j, st => .ok (.int (i + j)) st
  | _, _, _ => .bad
theorem fits_ipadd : Fits2 X W (ipI fun i j => i + j) dAddI := by
  intro m st σ x y v w Q rm ra rb hp
  unfold dAddI at hp
  split at hp
  · cases ra; cases rb; exact ⟨_, _, rfl, rfl, hp.okc rm (.int _)⟩
  · exact False.elim hp
theorem fits_ipsub : Fits2 X W (ipI fun i j => i - j) dSub := by
  intro m st σ x y v w Q rm ra rb hp
  unfold dSub at hp
  split at hp
  · cases ra; cases rb; exact ⟨_, _, rfl, rfl, hp.okc rm (.int _)⟩
  · exact False.elim hp
/-- o[i] = e -/
def stSet (x : D) (i : Int) (d : D) (st : Sto) : Option Sto := match x with
  | .loc n => match st[n]? with
    | some (.lst l) => match ixN l.length i with
      | some j => some (st.set n (.lst (l.set j d)))
      | none => none
    | _ => none
  | _ => none
def rSub (fo fi f : EF) : Sg → Sto → Res Unit := fun sg st => (f sg st).bind fun d st1 => (fo sg st1).bind fun x st2 => (fi sg st2).bind fun i st3 => match i with
  | .int i => match stSet x i d st3 with
    | some st4 => .ok () st4
    | none => .bad
  | _ => .bad
@[simp] def sSub (fo fi f : EF) : SF := fun sg st => (rSub fo fi f sg st).flw sg fun _ st4 => .nx sg st4
theorem ss_sub {fi : EF} {ps : Pos} (ho : SE X W o fo) (hi : SE X W b fi) (he : SE X W e f) (hs : swapsWithSole [.Subscript o b ps] e pos.line X.env = pure false := by rfl) (hw : swappedStores [.Subscript o b ps] e X.env = pure none := by rfl) (h1 : (assignEach [.Subscript o b ps] X.env).map (·.2) = [assign (.Subscript o b ps) X.env] := by rfl)
    (ha : ∀ v, assign (.Subscript o b ps) X.env v = (do
      let ov ← holding [v] (eval o X.env)
      let iv ← holding [v, ov] (eval b X.env)
      standAt ps
      holding [v, ov, iv] (setItem ov iv v)
      release [v, ov, iv] []) := by intro _; rfl) : SS X W (.Assign [.Subscript o b ps] e pos) (sSub fo fi f) :=
  ps_weak (ps_asg he (pg_sub ho hi set_list ha) hs hw h1) fun D σ H ⟨m, sg, st, e, rm, rs, hp⟩ => ⟨m, sg, st, e, rm, rs, by
    have hp' := flwc (r := rSub fo fi f sg st) (R := fun _ _ _ => True) (β := Unit) (Q := fun _ H3 => D.nx σ H3) hp rs fun m1 y v st1 e1 r1 q1 hp1 => hp1 m1 _ (Ext.refl _) r1 (rs.mono e1)
    unfold rSub at hp'
    refine hp'.bindc fun m1 d v st1 e1 r1 q1 hp1 => ⟨m1, sg, st1, rfl, r1, rs.mono e1, hp1.bindc fun m2 x w st2 e2 r2 q2 hp2 => ⟨m2, sg, st2, rfl, r2, (rs.mono e1).mono e2, hp2.bindc fun m3 i u st3 e3 r3 q3 hp3 => ?_⟩⟩
    split at hp3
    · rename_i i
      split at hp3
      · rename_i st4 hst
        cases q3
        unfold stSet at hst
        split at hst
        · split at hst
          · rename_i l hl
            split at hst
            · rename_i j hj
              cases hst
              have q2' := q2.mono e3
              cases q2' with
              | loc hr =>
                obtain ⟨vs, k1, k2⟩ := r3.obj _ _ _ hr hl
                refine ⟨_, vs, i, j, rfl, rfl, k1, by rw [← k2.length]; exact hj, ?_⟩
                exact hp3 (m3.put _ (.lst (vs.set j v))) () (Ext.put (List.mem_of_getElem? hr)) (r3.put hr ⟨_, upd_same, k2.set ((q1.mono e2).mono e3) j⟩) trivial
            · cases hst
          · cases hst
        · cases hst
      · exact False.elim hp3
    · exact False.elim hp3⟩
end
end Sh
/-! Part F: loops over things, comprehensions, objects made, errors, defs. -/
namespace Sh
open PySem L2
section
variable {X : Cx} {W : We} {e o a b c : Expr} {es : List Expr} {f fo fa fb : EF} {g : AF} {pos p apos pos' p2 : Pos} {x : Str} {gs hs : SF} {st : Stmt} {rest body : List Stmt}
/-! what is walked -/
def ItOk (K : PySem.W.Frag) (mg : Str → Option Value) (m : Hw) (J : It) (l : List D) (ck : Sto → Prop) : Prop := ∀ m1 st1, Ext m m1 → Rel K mg m1 st1 → ck st1 → ∀ i : Nat, (l.length ≤ i → J.stop i m1.h) ∧ ∀ d, l[i]? = some d → J.go i m1.h ∧ ∀ x H', J.yld i m1.h x H' → ∃ m2, m2.h = H' ∧ Ext m1 m2 ∧ Rel K mg m2 st1 ∧ Rep K mg m2.r m2.g d x
structure Wk where
  l : List D
  ck : Sto → Prop
abbrev IF := Sg → Sto → Res Wk
def IOf (K : PySem.W.Frag) (mg : Str → Option Value) (W : We) (f : IF) : TI := fun σ H R => ∃ m sg st, m.h = H ∧ Rel K mg m st ∧ SgRep K mg W.e m sg σ ∧ Post K mg W.w m σ (fun m1 w J => ItOk K mg m1 J w.l w.ck) R (f sg st)
def SI (X : Cx) (W : We) (tg iter : Expr) (f : IF) : Prop := PI X tg iter (IOf X.K X.mg W f)
theorem pi_weak {X : Cx} {tg e : Expr} {t t' : TI} (h : PI X tg e t) (i : ∀ σ H Q, t' σ H Q → t σ H Q) : PI X tg e t' := ⟨fun pins s σ H Q I q => h.run pins s σ H Q I (i σ H Q q)⟩
variable {tg iter : Expr}
@[simp] def iSeq (f : EF) : IF := fun sg st => (f sg st).bind fun x st1 => match x with
  | .lst l => .ok ⟨l, fun _ => True⟩ st1
  | .scr l => .ok ⟨l.map .int, fun _ => True⟩ st1
  | .loc n => match st1[n]? with
    | some (.lst l) => .ok ⟨l, fun st => st[n]? = some (.lst l)⟩ st1
    | _ => .bad
  | _ => .bad
@[simp] def iTupD (f : EF) : IF := fun sg st => (f sg st).bind fun x st1 => match x with
  | .tup l => .ok ⟨l, fun _ => True⟩ st1
  | _ => .bad
theorem itl_ok {K : PySem.W.Frag} {mg : Str → Option Value} {m : Hw} {a : Addr} {l : List D} {ck : Sto → Prop} (h : ∀ m1 st1, Ext m m1 → Rel K mg m1 st1 → ck st1 → ∃ vs, SqL K m1.h a vs ∧ Reps K mg m1.r m1.g l vs) : ItOk K mg m (Itl K a) l ck := by
  intro m1 st1 e1 r1 c1 i
  obtain ⟨vs, h1, h2⟩ := h m1 st1 e1 r1 c1
  refine ⟨fun hl => ⟨vs, h1, by rw [← h2.length]; exact hl⟩, fun d hd => ?_⟩
  obtain ⟨v, k1, k2⟩ := h2.get hd
  refine ⟨⟨vs, v, h1, k1⟩, fun x H' ⟨e, y⟩ => ⟨m1, e.symm, Ext.refl _, r1, ?_⟩⟩
  have := y vs h1
  rw [k1] at this
  cases this
  exact k2
theorem itt_ok {K : PySem.W.Frag} {mg : Str → Option Value} {m : Hw} {a : Addr} {l : List D} {ck : Sto → Prop} (h : ∀ m1 st1, Ext m m1 → Rel K mg m1 st1 → ck st1 → ∃ vs, SqT K m1.h a vs ∧ Reps K mg m1.r m1.g l vs) : ItOk K mg m (Itt K a) l ck := by
  intro m1 st1 e1 r1 c1 i
  obtain ⟨vs, h1, h2⟩ := h m1 st1 e1 r1 c1
  refine ⟨fun hl => ⟨vs, h1, by rw [← h2.length]; exact hl⟩, fun d hd => ?_⟩
  obtain ⟨v, k1, k2⟩ := h2.get hd
  refine ⟨⟨vs, v, h1, k1⟩, fun x H' ⟨e, y⟩ => ⟨m1, e.symm, Ext.refl _, r1, ?_⟩⟩
  have := y vs h1
  rw [k1] at this
  cases this
  exact k2
theorem si_seq (he : SE X W iter f) : SI X W tg iter (iSeq f) :=
  pi_weak (pi_list he) fun σ H R ⟨m, sg, st, e, rm, rs, hp⟩ => ⟨m, sg, st, e, rm, rs, hp.bindc fun m1 x v st1 e1 r1 q1 hp1 => by
    split at hp1
    · cases q1 with
      | lst h1 h2 => exact ⟨_, rfl, ⟨_, .of (r1.sub _ _ h1)⟩, hp1.okc r1 (itl_ok fun m2 st2 e2 r2 _ => ⟨_, .of (r2.sub _ _ (e2.g _ _ h1)), h2.mono e2⟩)⟩
    · cases q1 with
      | scr h1 => exact ⟨_, rfl, ⟨_, sqL_mono r1.sub h1⟩, hp1.okc r1 (itl_ok fun m2 st2 e2 r2 _ => ⟨_, sqL_mono r2.sub (sqL_mono e2.g h1), reps_ints (X := X) _⟩)⟩
    · cases q1 with
      | loc h1 =>
        split at hp1
        · rename_i l hl
          obtain ⟨vs, k1, k2⟩ := r1.obj _ _ _ h1 hl
          refine ⟨_, rfl, ⟨_, .of k1⟩, hp1.okc r1 (itl_ok fun m2 st2 e2 r2 hc => ?_)⟩
          obtain ⟨ws, k3, k4⟩ := r2.obj _ _ _ (e2.at_ h1) hc
          exact ⟨ws, .of k3, k4⟩
        · exact False.elim hp1
    · exact False.elim hp1⟩
theorem si_tup (he : SE X W iter f) : SI X W tg iter (iTupD f) :=
  pi_weak (pi_tup he) fun σ H R ⟨m, sg, st, e, rm, rs, hp⟩ => ⟨m, sg, st, e, rm, rs, hp.bindc fun m1 x v st1 e1 r1 q1 hp1 => by
    split at hp1
    · cases q1 with
      | tup h1 h2 => exact ⟨_, rfl, ⟨_, sqT_mono r1.sub h1⟩, hp1.okc r1 (itt_ok fun m2 st2 e2 r2 _ => ⟨_, sqT_mono r2.sub (sqT_mono e2.g h1), h2.mono e2⟩)⟩
    · exact False.elim hp1⟩
def rngD (lo : Int) (n : Nat) : List D := (List.range n).map fun (i : Nat) => .int (lo + (i : Int))
theorem itr_ok {K : PySem.W.Frag} {mg : Str → Option Value} {m : Hw} {lo : Int} {n : Nat} {ck : Sto → Prop} : ItOk K mg m (Itr lo n) (rngD lo n) ck := by
  intro m1 st1 e1 r1 c1 i
  refine ⟨fun hl => by
    have hl' : n ≤ i := by simpa [rngD] using hl
    exact hl', fun d hd => ?_⟩
  unfold rngD at hd
  rw [List.getElem?_map] at hd
  by_cases hi : i < n
  · rw [List.getElem?_range hi] at hd
    cases hd
    exact ⟨hi, fun x H' ⟨e, y⟩ => ⟨m1, e.symm, Ext.refl _, r1, by rw [y]; exact .int _⟩⟩
  · rw [List.getElem?_eq_none (by simpa using hi)] at hd
    cases hd
@[simp] def iRange1 (g : AF) : IF := fun sg st => (g sg st).bind fun l st1 => match l with
  | [.int j] => if -(2 ^ 62) ≤ j ∧ j < 2 ^ 62 then .ok ⟨rngD 0 j.toNat, fun _ => True⟩ st1 else .bad
  | _ => .bad
@[simp] def iRange2 (g : AF) : IF := fun sg st => (g sg st).bind fun l st1 => match l with
  | [.int i, .int j] => if -(2 ^ 62) ≤ i ∧ i < 2 ^ 62 ∧ -(2 ^ 62) ≤ j ∧ j < 2 ^ 62 then .ok ⟨rngD i (j - i).toNat, fun _ => True⟩ st1 else .bad
  | _ => .bad
theorem si_range1 (hg : Gl X "range") (hm : X.mg "range" = none) (ha : SA X W [a] g) (hs : starEach [a] X.env = [(false, eval a X.env)] := by rfl) : SI X W tg (.Call (.Name "range" p) [a] [] pos) (iRange1 g) :=
  pi_weak (pi_range1 hg hm ha hs) fun σ H R ⟨m, sg, st, e, rm, rs, hp⟩ => ⟨m, sg, st, e, rm, rs, hp.bindc fun m1 l vs st1 e1 r1 q1 hp1 => by
    split at hp1
    · obtain ⟨v, rfl, hv⟩ := reps1 (X := X) q1
      cases hv
      split at hp1
      · rename_i h
        exact ⟨_, rfl, h.1, h.2, hp1.okc r1 itr_ok⟩
      · exact False.elim hp1
    · exact False.elim hp1⟩
theorem si_range2 (hg : Gl X "range") (hm : X.mg "range" = none) (ha : SA X W [a, b] g) (hs : starEach [a, b] X.env = [(false, eval a X.env), (false, eval b X.env)] := by rfl) (hs2 : starEach [b] X.env = [(false, eval b X.env)] := by rfl) : SI X W tg (.Call (.Name "range" p) [a, b] [] pos) (iRange2 g) :=
  pi_weak (pi_range2 hg hm ha hs hs2) fun σ H R ⟨m, sg, st, e, rm, rs, hp⟩ => ⟨m, sg, st, e, rm, rs, hp.bindc fun m1 l vs st1 e1 r1 q1 hp1 => by
    split at hp1
    · obtain ⟨v, w, rfl, hv, hw⟩ := reps2 (X := X) q1
      cases hv; cases hw
      split at hp1
      · rename_i h
        exact ⟨_, _, rfl, h, hp1.okc r1 itr_ok⟩
      · exact False.elim hp1
    · exact False.elim hp1⟩
/-! for -/
open Classical in
noncomputable def forF (ck : Sto → Prop) (t : Tg) (g : SF) : List D → SF
  | [], sg, st => if ck st then .nx sg st else .bad
  | d :: r, sg, st => if ck st then (match setT t d sg with
    | some sg1 => (g sg1 st).loop (forF ck t g r)
    | none => .bad) else .bad
@[simp] noncomputable def sFor (f : IF) (t : Tg) (g : SF) : SF := fun sg st => (f sg st).flw sg fun w st1 => forF w.ck t g w.l sg st1
theorem ss_for {t : Tg} {fi : IF} (hpo : PassesOwn (model X.prog X.w) X.A X.env X.xe) (hc : X.calm = true) (hi : SI X W tg iter fi) (hg : PG X tg (gTg X.K t)) (hb : SSs X W body gs) (hs : ∀ x, foldedSetIterable iter X.env x = pure x := by intro _; rfl) : SS X W (.For tg iter body [] pos) (sFor fi t gs) :=
  ps_weak (ps_for hpo hc hi hg hb hs) fun D σ H ⟨m, sg, st, e, rm, rs, hp⟩ => ⟨m, sg, st, e, rm, rs, flwc hp rs fun m0 w J st0 e0 r0 it hp0 => by
    refine ⟨fun i k σ H => k = w.l.length - i ∧ i ≤ w.l.length ∧ ∃ m1 sg st, m1.h = H ∧ Ext m0 m1 ∧ Rel X.K X.mg m1 st ∧ SgRep X.K X.mg W.e m1 sg σ ∧ PostS X.K X.mg W m1 D (forF w.ck t gs (w.l.drop i) sg st), ⟨w.l.length, by simp, Nat.zero_le _, m0, sg, st0, rfl, Ext.refl _, r0, rs.mono e0, by simpa using hp0⟩, ?_⟩
    rintro i k σ1 H1 ⟨rfl, hi, m1, sg1, st1, rfl, e1, r1, s1, p1⟩
    by_cases hlt : i < w.l.length
    · rw [List.drop_eq_getElem_cons hlt] at p1
      unfold forF at p1
      split at p1
      · rename_i hck
        obtain ⟨_, hgo⟩ := it m1 st1 e1 r1 hck i
        obtain ⟨k1, k2⟩ := hgo w.l[i] (List.getElem?_eq_getElem hlt)
        refine .inr ⟨k1, fun σ H => ∃ m1 sg st, m1.h = H ∧ Ext m0 m1 ∧ Rel X.K X.mg m1 st ∧ SgRep X.K X.mg W.e m1 sg σ ∧ PostS X.K X.mg W m1 D (forF w.ck t gs (w.l.drop (i + 1)) sg st), fun σ' H' z => ⟨w.l.length - (i + 1), by omega, rfl, hlt, z⟩, fun y H' hy => ?_⟩
        obtain ⟨m2, rfl, e2, r2, q2⟩ := k2 y H' hy
        split at p1
        · rename_i sg2 hsg
          exact tg_of (ws := []) r2 hsg q2 (s1.mono e2) fun σ' s' _ => ⟨m2, sg2, st1, rfl, r2, s', loopc (PostS.mono p1 e2) fun m3 σ3 sg3 st3 e3 r3 s3 p3 => ⟨m3, sg3, st3, rfl, (e1.trans e2).trans e3, r3, s3, p3⟩⟩
        · exact False.elim p1
      · exact False.elim p1
    · have : i = w.l.length := by omega
      subst this
      rw [List.drop_length] at p1
      unfold forF at p1
      split at p1
      · rename_i hck
        exact .inl ⟨(it m1 st1 e1 r1 hck _).1 (Nat.le_refl _), p1 m1 σ1 (Ext.refl _) r1 s1⟩
      · exact False.elim p1⟩
/-! comprehensions -/
@[simp] def Res.noex {α : Type} : Res α → Res α
  | .exc _ _ _ => .bad
  | r => r
@[simp] def wipeD (sg : Sg) : List Nat → Sg
  | [] => sg
  | v :: vs => (wipeD sg vs).set v none
theorem wipe_rep {K : PySem.W.Frag} {mg : Str → Option Value} {y : Option Ex} {m : Hw} {sg : Sg} {σ : St} (h : SgRep K mg y m sg σ) : ∀ vs : List Nat, (∀ z, y = some z → z.i ∉ vs) → SgRep K mg y m (wipeD sg vs) (wipe σ vs)
  | [], _ => h
  | v :: vs, hv => (wipe_rep h vs fun z q w => hv z q (List.mem_cons_of_mem _ w)).unset v fun z q w => hv z q (w ▸ List.mem_cons_self)
open Classical in
noncomputable def lcF (ck : Sto → Prop) (t : Tg) (c : TF) (f : EF) (sg : Sg) : List D → Sto → Res (List D)
  | [], st => if ck st then .ok [] st else .bad
  | d :: r, st => if ck st then (match setT t d sg with
    | some sg1 => ((c sg1 st).noex.bind fun b st1 => if b = true then ((f sg1 st1).noex.bind fun y st2 => (lcF ck t c f sg r st2).bind fun ys st3 => .ok (y :: ys) st3) else lcF ck t c f sg r st1)
    | none => .bad) else .bad
noncomputable def lcR (ws : List Nat) (fi : IF) (t : Tg) (c : TF) (f : EF) : Sg → Sto → Res (List D) := fun sg st => (fi sg st).bind fun w st1 => if w.l.length ≤ 16777216 then (lcF w.ck t c f (wipeD sg ws) w.l st1).noex else .bad
@[simp] noncomputable def fLc (ws : List Nat) (fi : IF) (t : Tg) (c : TF) (f : EF) : EF := fun sg st => (lcR ws fi t c f sg st).bind fun l st1 => .ok (.lst l) st1
@[simp] noncomputable def fLcN (ws : List Nat) (fi : IF) (t : Tg) (c : TF) (f : EF) : EF := fun sg st => (lcR ws fi t c f sg st).bind fun l st1 => .ok (.loc st1.length) (st1 ++ [.lst l])
@[simp] def tYesD : TF := fun _ st => .ok true st
def WF (W : We) : We := ⟨fun _ _ _ _ => False, W.e⟩
theorem Post.noex {α β : Type} {K : PySem.W.Frag} {mg : Str → Option Value} {w : WX} {m : Hw} {σ σ' : St} {R : Hw → α → β → Prop} {Q : β → Hp → Prop} {r : Res α} (h : Post K mg w m σ R Q r.noex) : Post K mg (fun _ _ _ _ => False) m σ' R Q r := by
  cases r with
  | ok a st => exact h
  | exc c o st => exact False.elim h
  | bad => exact h
def STs (X : Cx) (W : We) (ifs : List Expr) (f : TF) : Prop := PTs X ifs (TOf X.K X.mg W RB f)
theorem pts_weak {X : Cx} {e : List Expr} {t t' : TT} (h : PTs X e t) (i : ∀ σ H Q, t' σ H Q → t σ H Q) : PTs X e t' := ⟨fun pins s σ H Q I q => h.run pins s σ H Q I (i σ H Q q)⟩
theorem sts_nil : STs X W [] tYesD := pts_weak pts_nil fun σ H Q ⟨m, sg, st, e, rm, rs, hp⟩ => by
  subst e; exact hp.okc rm rfl
theorem sts_one {t : TF} (h : SB X W c t) : STs X W [c] t := pts_one h
theorem Rel.side {K : PySem.W.Frag} {mg : Str → Option Value} {m : Hw} {st : Sto} (R : Rel K mg m st) {p : Addr} {o : HO} (h1 : p ∉ m.r) (h2 : m.g p = none) : Rel K mg (m.put p o) st := by
  refine ⟨fun a u e => ?_, R.len, R.nd, R.off, fun n a so e1 e2 => ?_⟩
  · show upd m.h p o a = some u
    rw [upd_ne (ne_of_none e h2)]; exact R.sub a u e
  · have : a ≠ p := fun z => h1 (z ▸ List.mem_of_getElem? e1)
    refine (R.obj n a so e1 e2).mono' (fun _ _ z => z) (fun _ _ z => z) fun u q => ?_
    show upd m.h p o a = some u
    rw [upd_ne this]; exact q
theorem Ext.side {m0 m : Hw} (e : Ext m0 m) {p : Addr} {o : HO} (h : m0.h p = none) : Ext m0 (m.put p o) := by
  refine ⟨e.pre, e.g, fun a u q n => ?_⟩
  obtain ⟨h1, h2, h3⟩ := e.fr a u q n
  refine ⟨?_, h2, h3⟩
  show upd m.h p o a = some u
  rw [upd_ne (ne_of_none q h)]; exact h1
theorem wipe_wipe {σ : St} (ws : List Nat) : ∀ vs : List Nat, (∀ j ∈ vs, j ∈ ws) → wipe (wipe σ vs) ws = wipe σ ws
  | [], _ => rfl
  | v :: vs, h => by
    show wipe ((wipe σ vs).set v none) ws = _
    rw [wipe_set (h v List.mem_cons_self)]
    exact wipe_wipe ws vs fun j hj => h j (List.mem_cons_of_mem _ hj)
/-- the loop of a comprehension: Dl is the new list -/
theorem lc_ok {t : Tg} {ct : TF} {fe : EF} {ws : List Nat} {σ : St} {sg : Sg} {m0 : Hw} {J : It} {w : Wk} {st0 : Sto} {Qd : V → Hp → Prop} (hw : ∀ i ∈ tgSl t, i ∈ ws) (hlen : w.l.length ≤ 16777216) (it : ItOk X.K X.mg m0 J w.l w.ck) (r0 : Rel X.K X.mg m0 st0) (rs : SgRep X.K X.mg W.e m0 sg σ) (hne : ∀ z, W.e = some z → z.i ∉ ws)
    (R : List D → Sto → Prop) (Dl : Addr) (hD : m0.h Dl = none) (start : ∃ l st, lcF w.ck t ct fe (wipeD sg ws) w.l st0 = .ok l st ∧ R l st)
    (fin : ∀ m1 l vs st, Ext m0 m1 → m1.h Dl = some (.lst vs) → Dl ∉ m1.r → m1.g Dl = none → Rel X.K X.mg m1 st → Reps X.K X.mg m1.r m1.g l vs → R l st → Qd (.ref Dl) m1.h) :
    ∃ Wd : Nat → Nat → Hp → Prop, (∃ k, Wd 0 k (upd m0.h Dl (.lst []))) ∧ ∀ i k H, Wd i k H →
      (J.stop i H ∧ Qd (.ref Dl) H) ∨ (J.go i H ∧ ∃ Nx : Hp → Prop, (∀ H', Nx H' → ∃ k', k' < k ∧ Wd (i + 1) k' H') ∧ ∀ x H', J.yld i H x H' → gTg X.K t x (wipe σ ws) H' fun σ2 H2 => wipe σ2 ws = wipe σ ws ∧ (TOf X.K X.mg (WF W) RB ct) σ2 H2 fun b H3 =>
        if b = true then (TOf X.K X.mg (WF W) (RD X.K X.mg) fe) σ2 H3 fun y H4 => ∃ acc, H4 Dl = some (.lst acc) ∧ acc.length < sizeLine ∧ Nx (upd H4 Dl (.lst (acc ++ [y]))) else Nx H3) := by
  refine ⟨fun i k H => k = w.l.length - i ∧ i ≤ w.l.length ∧ ∃ m1 st1 acc vs, m1.h = H ∧ Ext m0 m1 ∧ m1.h Dl = some (.lst vs) ∧ Dl ∉ m1.r ∧ m1.g Dl = none ∧ Rel X.K X.mg m1 st1 ∧ Reps X.K X.mg m1.r m1.g acc vs ∧ acc.length ≤ i ∧
    ∃ l st, lcF w.ck t ct fe (wipeD sg ws) (w.l.drop i) st1 = .ok l st ∧ R (acc ++ l) st, ?_, ?_⟩
  · refine ⟨w.l.length, by simp, Nat.zero_le _, m0.put Dl (.lst []), st0, [], [], rfl, (Ext.refl m0).side hD, upd_same, r0.fresh hD, r0.gnone hD, r0.side (r0.fresh hD) (r0.gnone hD), .nil, Nat.zero_le _, ?_⟩
    simpa using start
  rintro i k H ⟨rfl, hi, m1, st1, acc, vs, rfl, e1, d1, d2, d3, r1, q1, ha, l, st, hl, hR⟩
  have s1 : SgRep X.K X.mg W.e m1 (wipeD sg ws) (wipe σ ws) := wipe_rep (rs.mono e1) ws hne
  by_cases hlt : i < w.l.length
  · rw [List.drop_eq_getElem_cons hlt] at hl
    unfold lcF at hl
    split at hl
    · rename_i hck
      obtain ⟨_, hgo⟩ := it m1 st1 e1 r1 hck i
      obtain ⟨k1, k2⟩ := hgo w.l[i] (List.getElem?_eq_getElem hlt)
      refine .inr ⟨k1, fun H => ∃ m1 st1 acc vs, m1.h = H ∧ Ext m0 m1 ∧ m1.h Dl = some (.lst vs) ∧ Dl ∉ m1.r ∧ m1.g Dl = none ∧ Rel X.K X.mg m1 st1 ∧ Reps X.K X.mg m1.r m1.g acc vs ∧ acc.length ≤ i + 1 ∧
        ∃ l st, lcF w.ck t ct fe (wipeD sg ws) (w.l.drop (i + 1)) st1 = .ok l st ∧ R (acc ++ l) st, fun H' z => ⟨w.l.length - (i + 1), by omega, rfl, hlt, z⟩, fun y H' hy => ?_⟩
      obtain ⟨m2, rfl, e2, r2, q2⟩ := k2 y H' hy
      split at hl
      · rename_i sg2 hsg
        refine tg_of (ws := ws) r2 hsg q2 (s1.mono e2) fun σ' s' hws => ⟨?_, ?_⟩
        · rw [hws hw]
          exact wipe_wipe ws ws fun _ h => h
        · have f2 := e2.fr Dl _ d1 d2
          cases hc : ct sg2 st1 with
          | exc c o s => rw [hc] at hl; simp at hl
          | bad => rw [hc] at hl; simp at hl
          | ok b st2 =>
            rw [hc] at hl
            simp only [Res.noex, Res.bind] at hl
            refine ⟨m2, sg2, st1, rfl, r2, s', ?_⟩
            rw [hc]
            intro m3 b' e3 r3 hb
            cases hb
            have f3 := e3.fr Dl _ f2.1 f2.2.1
            cases b with
            | false =>
              rw [if_neg Bool.false_ne_true] at hl
              exact iteF ⟨m3, st2, acc, vs, rfl, (e1.trans e2).trans e3, f3.1, f3.2.1, f3.2.2 (f2.2.2 d3), r3, (q1.mono e2).mono e3, by omega, l, st, hl, hR⟩
            | true =>
              rw [if_pos rfl] at hl
              refine iteT ?_
              cases hf : fe sg2 st2 with
              | exc c o s => rw [hf] at hl; simp at hl
              | bad => rw [hf] at hl; simp at hl
              | ok d st3 =>
                rw [hf] at hl
                simp only [Res.noex, Res.bind] at hl
                refine ⟨m3, sg2, st2, rfl, r3, s'.mono e3, ?_⟩
                rw [hf]
                intro m4 v e4 r4 q4
                have f4 := e4.fr Dl _ f3.1 f3.2.1
                have q1' := ((q1.mono e2).mono e3).mono e4
                have hsz : vs.length < sizeLine := by
                  rw [← q1.length, sizeLine_eq]
                  omega
                refine ⟨vs, f4.1, hsz, m4.put Dl (.lst (vs ++ [v])), st3, acc ++ [d], vs ++ [v], rfl, (((e1.trans e2).trans e3).trans e4).side hD, upd_same, f4.2.1, f4.2.2 (f3.2.2 (f2.2.2 d3)), r4.side f4.2.1 (f4.2.2 (f3.2.2 (f2.2.2 d3))), q1'.append (.one q4), by simp; omega, ?_⟩
                cases hr : lcF w.ck t ct fe (wipeD sg ws) (w.l.drop (i + 1)) st3 with
                | exc c o s => rw [hr] at hl; simp at hl
                | bad => rw [hr] at hl; simp at hl
                | ok ys st4 =>
                  rw [hr] at hl
                  simp only [Res.ok.injEq] at hl
                  obtain ⟨rfl, rfl⟩ := hl
                  exact ⟨ys, st4, rfl, by simpa using hR⟩
      · cases hl
    · cases hl
  · have : i = w.l.length := by omega
    subst this
    rw [List.drop_length] at hl
    unfold lcF at hl
    split at hl
    · rename_i hck
      cases hl
      rw [List.append_nil] at hR
      exact .inl ⟨(it m1 st1 e1 r1 hck _).1 (Nat.le_refl _), fin m1 acc vs st1 e1 d1 d2 d3 r1 q1 hR⟩
    · cases hl
theorem Rel.frz {K : PySem.W.Frag} {mg : Str → Option Value} {m : Hw} {st : Sto} (R : Rel K mg m st) {p : Addr} {o : HO} (h : m.h p = some o) (h1 : p ∉ m.r) : Rel K mg ⟨m.r, upd m.g p o, m.h⟩ st := by
  refine ⟨fun a u e => ?_, R.len, R.nd, fun a z => ?_, fun n a so e1 e2 => ?_⟩
  · have e : upd m.g p o a = some u := e
    by_cases q : a = p
    · subst q; rw [upd_same] at e; cases e; exact h
    · rw [upd_ne q] at e; exact R.sub a u e
  · show upd m.g p o a = none
    have : a ≠ p := fun q => h1 (q ▸ z)
    rw [upd_ne this]; exact R.off a z
  · refine (R.obj n a so e1 e2).mono' (fun _ _ z => z) (fun b u q => ?_) fun u q => q
    show upd m.g p o b = some u
    by_cases e : b = p
    · subst e
      have := R.sub _ _ q
      rw [h] at this; cases this
      exact upd_same
    · rw [upd_ne e]; exact q
theorem Ext.frz {m0 m : Hw} (e : Ext m0 m) {p : Addr} {o : HO} (h : m0.h p = none) (h1 : m.h p = some o) (hs : ∀ a u, m.g a = some u → m.h a = some u) : Ext m0 ⟨m.r, upd m.g p o, m.h⟩ := by
  refine ⟨e.pre, fun a u q => ?_, fun a u q n => ?_⟩
  · show upd m.g p o a = some u
    by_cases z : a = p
    · subst z
      have := hs _ _ (e.g _ _ q)
      rw [h1] at this; cases this
      exact upd_same
    · rw [upd_ne z]; exact e.g _ _ q
  · obtain ⟨k1, k2, k3⟩ := e.fr a u q n
    refine ⟨k1, k2, fun z => ?_⟩
    show upd m.g p o a = none
    rw [upd_ne (ne_of_none q h)]; exact k3 z
theorem bind_assoc' {α β γ : Type} {r : Res α} {f : α → Sto → Res β} {k : β → Sto → Res γ} : (r.bind f).bind k = r.bind fun a st => (f a st).bind k := by
  cases r <;> rfl
variable {t : Tg} {ct : TF} {fe : EF} {fi : IF} {ifs : List Expr} {scope : Scope} {own : List (Str × Nat)} {elt : Expr}
theorem tLc_of {σ : St} {Q : VK} {m : Hw} {sg : Sg} {st : Sto} {ws : List Nat} {k : List D → Sto → Res D} (hw : ∀ i ∈ tgSl t, i ∈ ws) (hne : ∀ z, W.e = some z → z.i ∉ ws) (rm : Rel X.K X.mg m st) (rs : SgRep X.K X.mg W.e m sg σ) (hp : Post X.K X.mg W.w m σ (RD X.K X.mg) Q ((lcR ws fi t ct fe sg st).bind k))
    (fin : ∀ m1 l st1 Dl m2 vs, Ext m m1 → m1.h Dl = none → Ext m1 m2 → m2.h Dl = some (.lst vs) → Dl ∉ m2.r → m2.g Dl = none → Rel X.K X.mg m2 st1 → Reps X.K X.mg m2.r m2.g l vs → Post X.K X.mg W.w m1 σ (RD X.K X.mg) Q (k l st1) → Q (.ref Dl) m2.h) :
    tLc (IOf X.K X.mg W fi) (gTg X.K t) (TOf X.K X.mg (WF W) RB ct) (TOf X.K X.mg (WF W) (RD X.K X.mg) fe) ws σ m.h Q := by
  unfold lcR at hp
  rw [bind_assoc'] at hp
  refine ⟨m, sg, st, rfl, rm, rs, hp.bindc fun m1 w J st1 e1 r1 it hp1 => ?_⟩
  split at hp1
  · rename_i hl
    intro Dl hD
    cases hc : lcF w.ck t ct fe (wipeD sg ws) w.l st1 with
    | bad => rw [hc] at hp1; exact False.elim hp1
    | exc c o s => rw [hc] at hp1; exact False.elim hp1
    | ok l st2 =>
      rw [hc] at hp1
      exact lc_ok hw hl it r1 (rs.mono e1) hne (fun l' st' => l' = l ∧ st' = st2) Dl hD ⟨l, st2, hc, rfl, rfl⟩ fun m2 l' vs st' e2 h1 h2 h3 r2 q2 hR => by
        obtain ⟨rfl, rfl⟩ := hR
        exact fin m1 l' st' Dl m2 vs e1 hD e2 h1 h2 h3 r2 q2 hp1
  · exact False.elim hp1
theorem lc_val {σ : St} {Q : VK} {m1 m2 : Hw} {l : List D} {st1 : Sto} {Dl : Addr} {vs : List V} (hD : m1.h Dl = none) (e2 : Ext m1 m2) (h1 : m2.h Dl = some (.lst vs)) (h2 : Dl ∉ m2.r) (r2 : Rel X.K X.mg m2 st1) (q2 : Reps X.K X.mg m2.r m2.g l vs) (hp : Post X.K X.mg W.w m1 σ (RD X.K X.mg) Q (.ok (.lst l) st1)) : Q (.ref Dl) m2.h := by
  have e3 := (Ext.refl m2).g
  refine hp ⟨m2.r, upd m2.g Dl (.lst vs), m2.h⟩ (.ref Dl) (e2.frz hD h1 r2.sub) (r2.frz h1 h2) (.lst upd_same (Reps.mono' (fun _ _ z => z) (fun b u q => ?_) _ _ q2))
  by_cases e : b = Dl
  · subst e
    have := r2.sub _ _ q
    rw [h1] at this; cases this
    exact upd_same
  · show upd m2.g Dl (.lst vs) b = some u
    rw [upd_ne e]; exact q
theorem lc_new {σ : St} {Q : VK} {m1 m2 : Hw} {l : List D} {st1 : Sto} {Dl : Addr} {vs : List V} (hD : m1.h Dl = none) (e2 : Ext m1 m2) (h1 : m2.h Dl = some (.lst vs)) (h2 : Dl ∉ m2.r) (h3 : m2.g Dl = none) (r2 : Rel X.K X.mg m2 st1) (q2 : Reps X.K X.mg m2.r m2.g l vs) (hp : Post X.K X.mg W.w m1 σ (RD X.K X.mg) Q (.ok (.loc st1.length) (st1 ++ [.lst l]))) : Q (.ref Dl) m2.h := by
  have er : ∀ (n : Nat) (a : Addr), m2.r[n]? = some a → (m2.r ++ [Dl])[n]? = some a := fun n a z => by
    rw [List.getElem?_append_left (List.getElem?_eq_some_iff.mp z).1]; exact z
  have hn : (m2.r ++ [Dl])[st1.length]? = some Dl := by
    rw [← r2.len, List.getElem?_append_right (Nat.le_refl _)]
    simp
  refine hp ⟨m2.r ++ [Dl], m2.g, m2.h⟩ (.ref Dl) ?_ ?_ (.loc hn)
  · obtain ⟨t, ht⟩ := e2.pre
    refine ⟨⟨t ++ [Dl], by rw [ht, List.append_assoc]⟩, e2.g, fun a u q n => ?_⟩
    obtain ⟨k1, k2, k3⟩ := e2.fr a u q n
    refine ⟨k1, ?_, k3⟩
    have : a ≠ Dl := ne_of_none q hD
    show a ∉ m2.r ++ [Dl]
    simp [k2, this]
  · refine ⟨r2.sub, by simp [r2.len], ?_, fun a z => ?_, fun n a so e1 e2 => ?_⟩
    · show (m2.r ++ [Dl]).Nodup
      rw [List.nodup_append]
      refine ⟨r2.nd, by simp, fun a ha b hb e => ?_⟩
      have hb' : b = Dl := by simpa using hb
      subst e
      exact h2 (hb' ▸ ha)
    · have z' : a ∈ m2.r ++ [Dl] := z
      rcases List.mem_append.mp z' with z' | z'
      · exact r2.off a z'
      · have : a = Dl := by simpa using z'
        rw [this]; exact h3
    · have e1 : (m2.r ++ [Dl])[n]? = some a := e1
      by_cases hlt : n < m2.r.length
      · rw [List.getElem?_append_left hlt] at e1
        rw [List.getElem?_append_left (by rw [← r2.len]; exact hlt)] at e2
        exact (r2.obj n a so e1 e2).mono' er (fun _ _ z => z) fun u q => q
      · have hl := r2.len
        rw [List.getElem?_append_right (by omega)] at e1 e2
        have h0 : n - m2.r.length = 0 := by
          cases z : n - m2.r.length with
          | zero => rfl
          | succ k => rw [z] at e1; simp at e1
        have h0' : n - st1.length = 0 := by omega
        rw [h0] at e1; rw [h0'] at e2
        simp at e1 e2
        subst e1; subst e2
        exact ⟨vs, h1, Reps.mono' er (fun _ _ z => z) _ _ q2⟩
section
variable (hc : X.calm = true) (hN : X.N.Nodup) (hi : SI X W tg iter fi) (ok : BlkOk X.N X.env.scope scope own) (hw : ∀ i ∈ tgSl t, i ∈ own.map (·.2))
  (hg : ∀ (s : Shared) (H : Hp) (C : Addr) (cl : List (Str × Addr)) (fp : List Addr), PG (X.blk s H scope (compEnvC scope cl C X.env) fp) tg (gTg X.K t)) (ht : ∀ (s : Shared) (H : Hp) (C : Addr) (cl : List (Str × Addr)) (fp : List Addr), STs (X.blk s H scope (compEnvC scope cl C X.env) fp) (WF W) ifs ct)
  (he : ∀ (s : Shared) (H : Hp) (C : Addr) (cl : List (Str × Addr)) (fp : List Addr), SE (X.blk s H scope (compEnvC scope cl C X.env) fp) (WF W) elt fe) (hfs : ∀ x, foldedSetIterable iter X.env x = pure x)
include hc hN hi ok hw hg ht he hfs
theorem se_lc (hne : ∀ z, W.e = some z → z.i ∉ own.map (·.2) := by first | (intro _ h; cases h; done) | (intro _ h; cases h; decide)) : SE X W (.ListComp elt [⟨tg, iter, ifs, 0⟩] scope pos) (fLc (own.map (·.2)) fi t ct fe) :=
  pe_weak (pe_lc (tt := TOf X.K X.mg (WF W) RB ct) (te := TOf X.K X.mg (WF W) (RD X.K X.mg) fe) hc hN hi ok hg ht he hfs) fun σ H Q ⟨m, sg, st, e, rm, rs, hp⟩ => by
    subst e
    exact tLc_of hw hne rm rs hp fun m1 l st1 Dl m2 vs e1 hD e2 h1 h2 h3 r2 q2 hp1 => lc_val hD e2 h1 h2 r2 q2 hp1
theorem se_lcN (hne : ∀ z, W.e = some z → z.i ∉ own.map (·.2) := by first | (intro _ h; cases h; done) | (intro _ h; cases h; decide)) : SE X W (.ListComp elt [⟨tg, iter, ifs, 0⟩] scope pos) (fLcN (own.map (·.2)) fi t ct fe) :=
  pe_weak (pe_lc (tt := TOf X.K X.mg (WF W) RB ct) (te := TOf X.K X.mg (WF W) (RD X.K X.mg) fe) hc hN hi ok hg ht he hfs) fun σ H Q ⟨m, sg, st, e, rm, rs, hp⟩ => by
    subst e
    exact tLc_of hw hne rm rs hp fun m1 l st1 Dl m2 vs e1 hD e2 h1 h2 h3 r2 q2 hp1 => lc_new hD e2 h1 h2 h3 r2 q2 hp1
variable {i : Nat} {y : Str} {py spos : Pos} (hy : X.N[i]? = some y) (hyl : X.env.scope.names.lookup y = some .local) (hsw : swapsWith (.ListComp elt [⟨tg, iter, ifs, 0⟩] scope pos) (some (.Name y py)) spos.line X.env = pure true)
include hy hyl hsw
theorem ss_setLc (hne : ∀ z, W.e = some z → z.i ∉ own.map (·.2) := by first | (intro _ h; cases h; done) | (intro _ h; cases h; decide)) : SS X W (.Assign [.Name y py] (.ListComp elt [⟨tg, iter, ifs, 0⟩] scope pos) spos) (sSet i (fLc (own.map (·.2)) fi t ct fe)) :=
  ps_weak (ps_setLc (tt := TOf X.K X.mg (WF W) RB ct) (te := TOf X.K X.mg (WF W) (RD X.K X.mg) fe) hc hN hy hyl hsw hi ok hg ht he hfs) fun D σ H ⟨m, sg, st, e, rm, rs, hp⟩ => by
    subst e
    have hp' := flwc (R := RD X.K X.mg) (Q := fun z H3 => D.nx (σ.set i (some z)) H3) hp rs fun m1 y v st1 e1 r1 q1 hp1 => hp1 m1 _ (Ext.refl _) r1 ((rs.mono e1).set i q1)
    exact tLc_of hw hne rm rs hp' fun m1 l st1 Dl m2 vs e1 hD e2 h1 h2 h3 r2 q2 hp1 => lc_val hD e2 h1 h2 r2 q2 hp1
theorem ss_setLcN (hne : ∀ z, W.e = some z → z.i ∉ own.map (·.2) := by first | (intro _ h; cases h; done) | (intro _ h; cases h; decide)) : SS X W (.Assign [.Name y py] (.ListComp elt [⟨tg, iter, ifs, 0⟩] scope pos) spos) (sSet i (fLcN (own.map (·.2)) fi t ct fe)) :=
  ps_weak (ps_setLc (tt := TOf X.K X.mg (WF W) RB ct) (te := TOf X.K X.mg (WF W) (RD X.K X.mg) fe) hc hN hy hyl hsw hi ok hg ht he hfs) fun D σ H ⟨m, sg, st, e, rm, rs, hp⟩ => by
    subst e
    have hp' := flwc (R := RD X.K X.mg) (Q := fun z H3 => D.nx (σ.set i (some z)) H3) hp rs fun m1 y v st1 e1 r1 q1 hp1 => hp1 m1 _ (Ext.refl _) r1 ((rs.mono e1).set i q1)
    exact tLc_of hw hne rm rs hp' fun m1 l st1 Dl m2 vs e1 hD e2 h1 h2 h3 r2 q2 hp1 => lc_new hD e2 h1 h2 h3 r2 q2 hp1
end

/-! objects made -/
open Classical in
/-- an object of the class c, made by its __init__ and then only read -/
noncomputable def mkG (c : Nat) (Fk : D → Sto → Res D) : Sto → Res D := fun st => match Fk (.loc st.length) (st ++ [.ins c []]) with
  | .ok .non st2 => if st2.take st.length = st ∧ st2.length = st.length + 1 then (match st2[st.length]? with
    | some (.ins c' l') => if c' = c ∧ pus l' = true then .ok (.ins c l') st else .bad
    | _ => .bad) else .bad
  | .exc x o st2 => if st2.take st.length = st ∧ (∀ d, o = some d → pu d = true) then .exc x o st else .bad
  | _ => .bad
noncomputable def mkF (c : Nat) (F : FF) (n : Nat) (dds : List D) : FF := fun l st => mkG c (fun x => cF F n dds (x :: l)) st
end
end Sh
/-! Part G: objects made, errors raised and caught, defs. -/
namespace Sh
open PySem L2
section
variable {X : Cx} {W : We} {e o a b c : Expr} {es : List Expr} {f fo fa fb : EF} {g : AF} {pos p apos pos' p2 pos2 : Pos} {x m : Str} {gs hs : SF} {st : Stmt} {rest body : List Stmt}
variable {k n : Nat} {fn C : Addr} {fd : FuncData} {ps : List Str} {F : FF} {dvs : List V} {ds : List Value} {dds : List D}
/-- C(..) at values: what __init__ leaves -/
theorem run_makeS {ci : Nat} {pins : List (Addr × Obj)} {σ : St} {s : Shared} {w : Hw} {stt : Sto} {l : List D} {vs : List V} {us : List Value} {Q : VK} (hc : X.mg (cName ci) = some (.ref C)) (M : Mk X.K C fn) (hF : FnOk X.prog X.w X.K X.mg X.base (L2.CX X.prog X.w) k fn fd ps (spF X.K X.mg n F)) (hr : Room (k + 1) X.A) (tk : Takes X W.w) (hb : Binds X.K fd ps ds) (hd : Dfl X.K X.mg ds dvs dds)
    (I : Inv X pins σ w.h s) (r : Vals vs us) (rm : Rel X.K X.mg w stt) (q : Reps X.K X.mg w.r w.g l vs)
    (h : ∀ x dx, w.h x = none → w.h dx = none → dx ≠ x → Post X.K X.mg W.w ⟨w.r ++ [x], w.g, upd (upd w.h dx (.own x)) x (.ins C dx [])⟩ σ (RD X.K X.mg) (fun v H2 => v = .non ∧ Q (.ref x) H2) (cF F n dds (.loc stt.length :: l) (stt ++ [.ins ci []]))) :
    wpAny (model X.prog X.w) X.A (call (.ref C) us) (EP X pins σ Q) X.xe s := by
  have n1 : w.h (s.heap.objs.size + 1) = none := I.hok.fresh (Nat.le_succ _)
  have n2 : w.h s.heap.objs.size = none := I.hok.fresh (Nat.le_refl _)
  have n3 : s.heap.objs.size ≠ s.heap.objs.size + 1 := Nat.ne_of_lt (Nat.lt_succ_self _)
  have hq := h _ _ n1 n2 n3
  have I2 := Inv.made (C := C) I
  have r0 := rm.side (o := .own (s.heap.objs.size + 1)) (rm.fresh n2) (rm.gnone n2)
  have n4 : (w.put s.heap.objs.size (.own (s.heap.objs.size + 1))).h (s.heap.objs.size + 1) = none := by
    show upd w.h _ _ _ = none
    rw [upd_ne (Ne.symm n3)]; exact n1
  have r1 := r0.new (o := .ins C s.heap.objs.size []) (so := .ins ci []) n4 ⟨C, _, [], hc, upd_same, by simp, .nil⟩
  have e1 : ∀ (i : Nat) (a : Addr), w.r[i]? = some a → (w.r ++ [s.heap.objs.size + 1])[i]? = some a := fun i a z => by
    rw [List.getElem?_append_left (List.getElem?_eq_some_iff.mp z).1]; exact z
  unfold cF at hq
  split at hq
  · rename_i hl
    have hsp : spF X.K X.mg n F (V.ref (s.heap.objs.size + 1) :: (vs ++ dvs)) (upd (upd w.h s.heap.objs.size (.own (s.heap.objs.size + 1))) (s.heap.objs.size + 1) (.ins C s.heap.objs.size [])) (fun v H2 => v = .non ∧ Q (.ref (s.heap.objs.size + 1)) H2) (WE W.w σ) :=
      ⟨⟨w.r ++ [s.heap.objs.size + 1], w.g, upd (upd w.h s.heap.objs.size (.own (s.heap.objs.size + 1))) (s.heap.objs.size + 1) (.ins C s.heap.objs.size [])⟩, .loc stt.length :: (l ++ dds), stt ++ [SO.ins ci []], rfl, r1, .cons (.loc (by
        show (w.r ++ [s.heap.objs.size + 1])[stt.length]? = _
        rw [← rm.len, List.getElem?_append_right (Nat.le_refl _)]
        simp)) ((Reps.mono' e1 (fun _ _ z => z) _ _ q).append (hd.r _ _)), by simpa using hl, hq.conv⟩
    have rr : Vals (V.ref (s.heap.objs.size + 1) :: (vs ++ dvs)) (Value.ref (s.heap.objs.size + 1) :: (us ++ ds)) := .cons rfl (r.append hd.v)
    have hlen : (Value.ref (s.heap.objs.size + 1) :: us ++ ds).length = ps.length := by
      have z := rr.length
      rw [hF.len _ _ _ _ hsp] at z
      exact z.symm
    have here := hF.run _ X.stack _ _ ⟨Value.ref (s.heap.objs.size + 1) :: us, []⟩ (Value.ref (s.heap.objs.size + 1) :: (us ++ ds)) _ _ (WE W.w σ) (hr.make C us []) (I2.env0.make C us []) (hb _ (Value.ref (s.heap.objs.size + 1) :: us) I2.kIn hlen) rr hsp
    refine wpAny_call (make_map (f := fn) I.kIn M.makes M.init (beq_iff_eq.mp M.fn) (codeAny_mono here fun res s' hz => ?_))
    match res, hz with
    | .error er, hz => exact passAt tk σ pins _ _ er s' I2 hz
    | .ok (.ret u), hz =>
      obtain ⟨v, H', I3, rv, ev, q3⟩ := I2.after hz
      subst ev
      exact ⟨rv, ⟨V.ref (s.heap.objs.size + 1), H', I3, rfl, q3⟩⟩
    | .ok .next, hz => exact False.elim hz
    | .ok .brk, hz => exact False.elim hz
    | .ok .cont, hz => exact False.elim hz
  · exact False.elim hq
/-- from the meaning of a made object that is only read -/
theorem mkG_post {ci : Nat} {σ : St} {w : Hw} {stt : Sto} {Fk : D → Sto → Res D} {Q : VK} (hc : X.mg (cName ci) = some (.ref C)) (rm : Rel X.K X.mg w stt) (hp : Post X.K X.mg W.w w σ (RD X.K X.mg) Q (mkG ci Fk stt)) :
    ∀ x dx, w.h x = none → w.h dx = none → dx ≠ x → Post X.K X.mg W.w ⟨w.r ++ [x], w.g, upd (upd w.h dx (.own x)) x (.ins C dx [])⟩ σ (RD X.K X.mg) (fun v H2 => v = .non ∧ Q (.ref x) H2) (Fk (.loc stt.length) (stt ++ [.ins ci []])) := by
  intro x dx hx hdx hne
  have e0 : Ext w ⟨w.r ++ [x], w.g, upd (upd w.h dx (.own x)) x (.ins C dx [])⟩ := by
    refine ⟨⟨[x], rfl⟩, fun _ _ z => z, fun a u q n => ⟨?_, ?_, fun z => z⟩⟩
    · show upd (upd w.h dx (.own x)) x (.ins C dx []) a = some u
      rw [upd_ne (ne_of_none q hx), upd_ne (ne_of_none q hdx)]; exact q
    · have : a ≠ x := ne_of_none q hx
      show a ∉ w.r ++ [x]
      simp [n, this]
  have hxr : x ∉ w.r := rm.fresh hx
  unfold mkG at hp
  split at hp
  · rename_i st2 hq
    rw [hq]
    split at hp
    · rename_i hst
      split at hp
      · rename_i c' l' hl'
        split at hp
        · rename_i hcl
          intro m' v e1 r1 q1
          cases q1
          refine ⟨rfl, ?_⟩
          have hat : m'.r[stt.length]? = some x := e1.at_ (by
            show (w.r ++ [x])[stt.length]? = _
            rw [← rm.len, List.getElem?_append_right (Nat.le_refl _)]
            simp)
          have hxm : x ∈ m'.r := List.mem_of_getElem? hat
          obtain ⟨rfl, hpu⟩ := hcl
          obtain ⟨C', dx', fs, k1, k2, k3, k4⟩ := r1.obj _ _ _ hat hl'
          have e2 := e0.trans e1
          have gx := r1.off x hxm
          have hg : ∀ a u, m'.g a = some u → upd m'.g x (.ins C' dx' fs) a = some u := fun a u z => by
            rw [upd_ne (ne_of_none z gx)]; exact z
          refine hp ⟨w.r, upd m'.g x (.ins C' dx' fs), m'.h⟩ (.ref x) ?_ (rm.cut r1 e2 hst.1 _ (fun a u z => ?_) (fun a z => ?_) hg) (.ins k1 upd_same k3 (reps_pu _ _ hpu (Reps.mono' (fun _ _ z => z) hg _ _ k4)))
          · refine ⟨⟨[], by simp⟩, fun a u z => hg a u (e2.g a u z), fun a u q n => ?_⟩
            obtain ⟨j1, j2, j3⟩ := e2.fr a u q n
            refine ⟨j1, n, fun z => ?_⟩
            show upd m'.g x _ a = none
            rw [upd_ne (ne_of_none q hx)]; exact j3 z
          · by_cases z' : a = x
            · subst z'; rw [upd_same] at z; cases z; exact k2
            · rw [upd_ne z'] at z; exact r1.sub a u z
          · have : a ≠ x := fun z' => hxr (z' ▸ z)
            rw [upd_ne this]
            obtain ⟨t, ht⟩ := e2.pre
            exact r1.off a (by rw [ht]; exact List.mem_append_left _ z)
        · exact False.elim hp
      · exact False.elim hp
    · exact False.elim hp
  · rename_i xc o st2 hq
    rw [hq]
    split at hp
    · rename_i hst
      obtain ⟨hst, hpu⟩ := hst
      intro m' cls dx' e1 r1 q1
      have e2 := e0.trans e1
      refine hp ⟨w.r, m'.g, m'.h⟩ cls dx' ⟨⟨[], by simp⟩, e2.g, fun a u q n => let ⟨j1, _, j3⟩ := e2.fr a u q n; ⟨j1, n, j3⟩⟩ (rm.cut r1 e2 hst _ r1.sub (fun a z => ?_) fun _ _ z => z) ?_
      · obtain ⟨t, ht⟩ := e2.pre
        exact r1.off a (by rw [ht]; exact List.mem_append_left _ z)
      · obtain ⟨C, x1, x2, x3⟩ := q1
        refine ⟨C, x1, x2, ?_⟩
        cases o with
        | none => exact x3
        | some d =>
          obtain ⟨a, v, y1, y2, y3⟩ := x3
          exact ⟨a, v, y1, y2, rep_pu d v (hpu d rfl) y3⟩
    · exact False.elim hp
  · exact False.elim hp
theorem mkF_post {ci : Nat} {σ : St} {w : Hw} {stt : Sto} {l : List D} {Q : VK} (hc : X.mg (cName ci) = some (.ref C)) (rm : Rel X.K X.mg w stt) (hp : Post X.K X.mg W.w w σ (RD X.K X.mg) Q (mkF ci F n dds l stt)) :
    ∀ x dx, w.h x = none → w.h dx = none → dx ≠ x → Post X.K X.mg W.w ⟨w.r ++ [x], w.g, upd (upd w.h dx (.own x)) x (.ins C dx [])⟩ σ (RD X.K X.mg) (fun v H2 => v = .non ∧ Q (.ref x) H2) (cF F n dds (.loc stt.length :: l) (stt ++ [.ins ci []])) := mkG_post (Fk := fun x => cF F n dds (x :: l)) hc rm hp
theorem se_make {ci : Nat} (hc : X.mg (cName ci) = some (.ref C)) (M : Mk X.K C fn) (hF : FnOk X.prog X.w X.K X.mg X.base (L2.CX X.prog X.w) k fn fd ps (spF X.K X.mg n F)) (hr : Room (k + 1) X.A) (tk : Takes X W.w) (hg : Gl X x) (hm : X.mg x = some (.ref C)) (hb : Binds X.K fd ps ds) (hd : Dfl X.K X.mg ds dvs dds)
    (ha : SA X W (e :: es) g) (hdb : (x == ("__debug__" : Str)) = false := by decide) (he : starEach (e :: es) X.env = (false, eval e X.env) :: starEach es X.env := by rfl) (hpl : (backTo pos (starEach es X.env)).any (·.1) = false := by rfl) :
    SE X W (.Call (.Name x p) (e :: es) [] pos) (fCall (mkF ci F n dds) g) := by
  refine ⟨fun pins s σ H Q I h => ?_⟩
  obtain ⟨w, sg, st, rfl, rm, rs, hp⟩ := h
  refine wpAny_Call_Name_kw (ld_glob I hg hm ?_ hdb)
  refine PySem.W.callWith_K (h₀ := X.base) I.ok.mod.kin M.kp (thn (ha.run pos pins s σ w.h (fun vs H2 => ∃ m2 l st2, m2.h = H2 ∧ Rel X.K X.mg m2 st2 ∧ Reps X.K X.mg m2.r m2.g l vs ∧ Post X.K X.mg W.w m2 σ (RD X.K X.mg) Q (mkF ci F n dds l st2)) I
    ⟨w, sg, st, rfl, rm, rs, hp.bindc fun m2 l vs st2 e2 r2 q2 hp2 => ⟨m2, l, st2, rfl, r2, q2, hp2⟩⟩) fun us s1 hz => ?_) he hpl
  obtain ⟨vs, H2, I2, rv2, m2, l, st2, rfl, r2, q2, hp2⟩ := hz
  exact ⟨I2.kIn, run_makeS hc M hF hr tk hb hd I2 rv2 r2 q2 (mkF_post hc r2 hp2)⟩
theorem se_make0 {ci : Nat} (hc : X.mg (cName ci) = some (.ref C)) (M : Mk X.K C fn) (hF : FnOk X.prog X.w X.K X.mg X.base (L2.CX X.prog X.w) k fn fd ps (spF X.K X.mg n F)) (hr : Room (k + 1) X.A) (tk : Takes X W.w) (hg : Gl X x) (hm : X.mg x = some (.ref C)) (hb : Binds X.K fd ps ds) (hd : Dfl X.K X.mg ds dvs dds)
    (hdb : (x == ("__debug__" : Str)) = false := by decide) : SE X W (.Call (.Name x p) [] [] pos) (fCall (mkF ci F n dds) aNil) := by
  refine ⟨fun pins s σ H Q I h => ?_⟩
  obtain ⟨w, sg, st, rfl, rm, rs, hp⟩ := h
  refine wpAny_Call_Name_kw (ld_glob I hg hm ?_ hdb)
  exact PySem.W.callWith_K0 I.kIn M.kp (run_makeS (us := []) hc M hF hr tk hb hd I .nil rm .nil (mkF_post hc rm hp))
/-- self.f = e -/
def stFld (c i : Nat) (x d : D) (st : Sto) : Option Sto := match x with
  | .loc n => match st[n]? with
    | some (.ins c' l) => if c' = c ∧ i ≤ l.length then some (st.set n (.ins c (if i < l.length then l.set i d else l ++ [d]))) else none
    | _ => none
  | _ => none
def rFldS (c i : Nat) (fo f : EF) : Sg → Sto → Res Unit := fun sg st => (f sg st).bind fun d st1 => (fo sg st1).bind fun x st2 => match stFld c i x d st2 with
  | some st3 => .ok () st3
  | none => .bad
@[simp] def sFldS (c i : Nat) (fo f : EF) : SF := fun sg st => (rFldS c i fo f sg st).flw sg fun _ st4 => .nx sg st4
theorem putF_old {f : Str} {y : V} : ∀ {fs : List (Str × V)} {ns : List Str} {i : Nat}, fs.map (·.1) = ns → ns.Nodup → ns[i]? = some f → (putF f y fs).map (·.1) = ns ∧ (putF f y fs).map (·.2) = (fs.map (·.2)).set i y
  | [], ns, i, h, _, e => by simp at h; subst h; simp at e
  | (f', v') :: fs, ns, i, h, nd, e => by
    simp at h
    subst h
    unfold putF
    cases i with
    | zero =>
      simp at e
      subst e
      simp
    | succ i =>
      have hne : ¬ f' = f := fun z => by
        subst z
        exact (List.nodup_cons.mp nd).1 (List.mem_of_getElem? (i := i) (by simpa using e))
      obtain ⟨h1, h2⟩ := putF_old (y := y) (fs := fs) (i := i) rfl (List.nodup_cons.mp nd).2 (by simpa using e)
      rw [if_neg hne]
      constructor
      · simp [h1]
      · simp [h2]
theorem putF_new {f : Str} {y : V} : ∀ {fs : List (Str × V)}, f ∉ fs.map (·.1) → putF f y fs = fs ++ [(f, y)]
  | [], _ => rfl
  | (f', v') :: fs, h => by
    have hne : ¬ f' = f := fun z => h (by simp [z])
    unfold putF
    rw [if_neg hne, putF_new (fs := fs) fun z => h (by simp at z ⊢; exact .inr z)]
    rfl
theorem ss_fld {ci i : Nat} (hc : X.mg (cName ci) = some (.ref C)) (cl : Cls X.K C) (na : NoAttr X.K C m) (hf : (cFlds ci)[i]? = some m) (hnd : (cFlds ci).Nodup) (hlen : (cFlds ci).length < 1000) (ho : SE X W o fo) (he : SE X W e f) (hs : swapsWith e (some (.Attribute o m pos')) pos.line X.env = pure false := by rfl) :
    SS X W (.Assign [.Attribute o m pos'] e pos) (sFldS ci i fo f) :=
  ps_weak (ps_fld ho he hs) fun D σ H ⟨w, sg, st, e, rm, rs, hp⟩ => ⟨w, sg, st, e, rm, rs, by
    have hp' := flwc (r := rFldS ci i fo f sg st) (R := fun _ _ _ => True) (β := Unit) (Q := fun _ H3 => D.nx σ H3) hp rs fun m1 y v st1 e1 r1 q1 hp1 => hp1 m1 _ (Ext.refl _) r1 (rs.mono e1)
    unfold rFldS at hp'
    refine hp'.bindc fun m1 d v st1 e1 r1 q1 hp1 => ⟨m1, sg, st1, rfl, r1, rs.mono e1, hp1.bindc fun m2 x u st2 e2 r2 q2 hp2 => ?_⟩
    split at hp2
    · rename_i st3 hst
      unfold stFld at hst
      split at hst
      · split at hst
        · rename_i c' l hl
          split at hst
          · rename_i hcc
            cases hst
            obtain ⟨rfl, hi⟩ := hcc
            cases q2 with
            | loc hr =>
              obtain ⟨C', dx, fs, k1, k2, k3, k4⟩ := r2.obj _ _ _ hr hl
              rw [hc] at k1
              cases k1
              have hlf : fs.length = l.length := by have := k4.length; simpa using this.symm
              have hll : l.length ≤ (cFlds c').length := by
                have z := congrArg List.length k3
                simp at z
                omega
              refine ⟨_, C, dx, fs, rfl, k2, cl, na, by omega, ?_⟩
              refine hp2 (m2.put _ (.ins C dx (putF m v fs))) () (Ext.put (List.mem_of_getElem? hr)) (r2.put hr ?_) trivial
              split
              · rename_i hlt
                obtain ⟨z1, z2⟩ := putF_old (y := v) k3 (hnd.sublist (List.take_sublist _ _)) (take_at hf hlt)
                exact ⟨C, dx, _, hc, upd_same, by rw [z1]; simp, by rw [z2]; exact k4.set (q1.mono e2) i⟩
              · rename_i hge
                have hil : i = l.length := by omega
                subst hil
                have hnot : m ∉ fs.map (·.1) := fun z => by
                  rw [k3] at z
                  obtain ⟨j, hj, hm⟩ := List.mem_iff_getElem.mp z
                  rw [List.getElem_take] at hm
                  have hj' : j < l.length := by have := hj; simp at this; omega
                  have := nodup_ix hnd (i := j) (j := l.length) (x := m) (by rw [List.getElem?_eq_getElem (by omega), hm]) hf
                  omega
                refine ⟨C, dx, _, hc, upd_same, ?_, ?_⟩
                · rw [putF_new hnot, List.map_append, k3, List.length_append]
                  show _ ++ [m] = _
                  have hlt : l.length < (cFlds c').length := (List.getElem?_eq_some_iff.mp hf).1
                  have hm : (cFlds c')[l.length] = m := (List.getElem?_eq_some_iff.mp hf).2
                  rw [show l.length + [d].length = l.length + 1 from rfl, List.take_succ_eq_append_getElem hlt, hm]
                · rw [putF_new hnot, List.map_append]
                  exact k4.append (.one (q1.mono e2))
          · cases hst
        · cases hst
      · cases hst
    · exact False.elim hp2⟩
/-! errors -/
structure XOwn (X : Cx) (c : Nat) (C : Addr) : Prop where
  g : X.mg (xName c) = some (.ref C)
  q : PySem.W.excIn X.K C [.type "ValueError", .type "Exception", .type "BaseException", .type "object"] "ValueError.__new__" = true
  k : PySem.W.keepIn X.K (.ref C) = true
  r : Raises X (.ref C)
theorem ss_raise {ci j : Nat} {msg : Str} (xo : XOwn X ci C) (hx : xName ci = x) (hc : X.calm = true) (tk : Takes X W.w) (hg : Gl X x) (hdb : (x == ("__debug__" : Str)) = false := by decide) : SS X W (.Raise (some (.Call (.Name x p) [.Constant (.str msg) j p2] [] pos)) none pos2) (fun sg st => .exc ci none sg st) := by
  subst hx
  exact ps_weak (ps_raise hc tk (pmk_own PySem.F.excBase_ValueError xo.q xo.g xo.k xo.r hg hdb)) fun D σ H ⟨w, sg, st, e, rm, rs, hp⟩ => by
    subst e
    exact hp w σ (.ref C) none (Ext.refl _) rm rs ⟨C, xo.g, rfl, rfl⟩
/-! try: body, except x as n: suite -/
@[simp] def Flw.unx (i : Nat) : Flw → Flw
  | .nx sg st => .nx (sg.set i none) st
  | .brk sg st => .brk (sg.set i none) st
  | .cnt sg st => .cnt (sg.set i none) st
  | .ret d st => .ret d st
  | _ => .bad
/-- hc: whether the clause takes an error of that class; c0: the one that it takes -/
def sTryAs (g : SF) (hc : Nat → Option Bool) (c0 : Nat) (fl : Bool) (i : Nat) (su : Option D → SF) : SF := fun sg st => match g sg st with
  | .exc c o sg1 st1 => match hc c with
    | some true => if c = c0 ∧ o.isSome = fl then (su o (sg1.set i none) st1).unx i else .bad
    | some false => .exc c o sg1 st1
    | none => .bad
  | r => r
theorem unx_ok {K : PySem.W.Frag} {mg : Str → Option Value} {w w' : WX} {y : Ex} {m1 : Hw} {D : Ends} {z : Flw} (h : PostS K mg ⟨w, none⟩ m1 D (z.unx y.i)) :
    PostS K mg ⟨w', some y⟩ m1 { nx := fun σ' H' => D.nx (σ'.set y.i none) H', rt := D.rt, bk := fun σ' H' => D.bk (σ'.set y.i none) H', ct := fun σ' H' => D.ct (σ'.set y.i none) H' } z := by
  cases z with
  | nx sg st => exact fun m' σ' e r s => h m' _ e r s.unheld
  | brk sg st => exact fun m' σ' e r s => h m' _ e r s.unheld
  | cnt sg st => exact fun m' σ' e r s => h m' _ e r s.unheld
  | ret d st => exact fun m' v e r s => h m' v e r s
  | exc c o sg st => exact False.elim h
  | bad => exact False.elim h
def WS (y : Ex) : We := ⟨fun _ _ _ _ => False, some y⟩
theorem ss_tryAs {w : WX} {xn n : Str} {cv : Value} {c0 i : Nat} {suite : List Stmt} {b₀ : Stmt} {np : Pos} {hc : Nat → Option Bool} {fl : Bool} {su : Option D → SF} (hs : X.stack = X.env :: X.outer) (hf : X.env.frame = some X.env.locals) (hN : X.N.Nodup) (hi : X.N[i]? = some n) (hln : X.env.kindOf n = some .local) (hnm : Names X xn cv) (tk : Takes X w)
    (hh : ∀ c b C, hc c = some b → X.mg (xName c) = some (.ref C) → PySem.W.exmOne X.K (.ref C) cv = some b)
    (hb : ∀ (W' : WX) (pn : List (Addr × Obj)) (xe : Value → Shared → Prop), Takes (X.tr pn xe) W' → PassesOwn (model X.prog X.w) X.A X.env xe → SSs (X.tr pn xe) ⟨W', none⟩ body gs)
    (hsu : ∀ (a : Addr) (oe : Obj) (C : Addr) (d : Option Addr) (o : Option D) (pn : List (Addr × Obj)), X.mg (xName c0) = some (.ref C) → o.isSome = fl → (o = none → d = none) → Zc (.ref C) d oe → (∃ vs, oe.data = .fields vs) → SSs (X.suite a ((a, oe) :: pn)) (WS ⟨i, a, .ref C, d, c0, o⟩) (b₀ :: suite) (su o)) :
    SS X ⟨w, none⟩ (.Try body [.ExceptHandler (some (.Name xn np)) (some n) (b₀ :: suite) pos'] [] [] pos) (sTryAs gs hc c0 fl i su) :=
  ps_weak (ps_try_as (tb := fun W' => SOf X.K X.mg ⟨W', none⟩ gs) (ts := fun a cls d D σ H => ∃ C o, cls = .ref C ∧ X.mg (xName c0) = some (.ref C) ∧ o.isSome = fl ∧ (o = none → d = none) ∧ SOf X.K X.mg (WS ⟨i, a, cls, d, c0, o⟩) (su o) D σ H) hs hf hN hi hln hnm tk hb
    (fun a oe cls d pn hz hv => ⟨fun pins s σ H D I ⟨C, o, h1, h2, h4, h5, h3⟩ => by
      subst h1
      exact (hsu a oe C d o pn h2 h4 h5 hz hv).run pins s σ H D I h3⟩)) fun D σ H ⟨m, sg, st, e, rm, rs, hp⟩ => ⟨m, sg, st, e, rm, rs, by
    unfold sTryAs at hp
    cases hg : gs sg st with
    | exc c o sg1 st1 =>
      rw [hg] at hp
      intro m' σ' cls dx e' r' s' x'
      have x2 := x'
      obtain ⟨C, k1, k2, k3⟩ := x'
      subst k2
      dsimp only at hp
      cases hq : hc c with
      | none => rw [hq] at hp; exact False.elim hp
      | some b =>
        rw [hq] at hp
        refine ⟨b, hh c b C hq k1, fun hbt a ha => ?_, fun hbf => ?_⟩
        · subst hbt
          dsimp only at hp
          split at hp
          · rename_i hcc
            obtain ⟨hcc, hfl⟩ := hcc
            subst hcc
            refine ⟨C, o, rfl, k1, hfl, (fun z => by subst z; exact k3), m', sg1.set i none, st1, rfl, r', ?_, unx_ok (y := ⟨i, a, .ref C, dx, c, o⟩) (PostS.mono hp e')⟩
            exact SgRep.held (y := ⟨i, a, .ref C, dx, c, o⟩) s' x2
          · exact False.elim hp
        · subst hbf
          exact hp m' σ' (.ref C) dx e' r' s' x2
    | nx sg1 st1 => rw [hg] at hp; exact hp
    | ret d st1 => rw [hg] at hp; exact hp
    | brk sg1 st1 => rw [hg] at hp; exact hp
    | cnt sg1 st1 => rw [hg] at hp; exact hp
    | bad => rw [hg] at hp; exact hp⟩
/-! within a suite: isinstance(e, T) -/
@[simp] def fIsE (i : Nat) (b : Bool) : EF := fun sg st => match sg[i]? with
  | some none => .ok (.bl b) st
  | _ => .bad
theorem se_isE {y : Ex} {oe : Obj} {pn : List (Addr × Obj)} {c : V} {cv : Value} {bb : Bool} {e2 : Expr} {n : Str} {pp : Pos} (hcl : y.cls = .ref C) (hd : y.d = none) (T : ExcC X.K C) (hz : Zc (.ref C) none oe) (hf : ∃ vs, oe.data = .fields vs) (hg : Gl X "isinstance") (hm : X.mg "isinstance" = none)
    (h1 : PE (X.suite y.a ((y.a, oe) :: pn)) (.Name n pp) (tVar y.i)) (h2 : PE (X.suite y.a ((y.a, oe) :: pn)) e2 (tC c)) (hcv : ∀ u, RelV c u → u = cv) (hk : PySem.W.kitOne X.K (.ref C) cv = some bb)
    (he : starEach (.Name n pp :: [e2]) X.env = (false, eval (.Name n pp) X.env) :: starEach [e2] X.env := by rfl) (hpl : (backTo pos (starEach [e2] X.env)).any (·.1) = false := by rfl) (hs : starEach (e2 :: []) X.env = (false, eval e2 X.env) :: starEach [] X.env := by rfl) :
    SE (X.suite y.a ((y.a, oe) :: pn)) (WS y) (.Call (.Name "isinstance" p) [.Name n pp, e2] [] pos) (fIsE y.i bb) :=
  pe_weak (pe_callB (call_isE T hz hf) hg hm (by decide +kernel) (pa_cons h1 (pa_cons h2 pa_nil hs) he) (by decide) (by decide) he hpl) fun σ H Q ⟨m, sg, st, e, rm, rs, hp⟩ => by
    subst e
    unfold fIsE at hp
    split at hp
    · rename_i hsl
      obtain ⟨k1, _⟩ := rs.2.2 y rfl hsl
      exact ⟨_, k1, c, cv, bb, rfl, hcv, hk, hp.okc rm (.bl _)⟩
    · exact False.elim hp
end

/-! defs -/
section
variable {P : Program} {w : World} {K : PySem.W.Frag} {mg : Str → Option Value} {base : Heap}
def fnF (n : Nat) (g : SF) : FF := fun ds st => match g (ds.map some ++ List.replicate (n - ds.length) none) st with
  | .nx _ st1 => .ok .non st1
  | .ret d st1 => .ok d st1
  | .exc c o _ st1 => .exc c o st1
  | _ => .bad
theorem start_rep {m : Hw} {N : List Str} {ds : List D} {vs : List V} (h : Reps K mg m.r m.g ds vs) : SgRep K mg none m (ds.map some ++ List.replicate (N.length - ds.length) none) (L2.start N vs) := by
  have hl := h.length
  refine ⟨by unfold L2.start; simp [hl], fun i d q => ?_, fun _ z _ => nomatch z⟩
  by_cases hi : i < ds.length
  · rw [List.getElem?_append_left (by simpa using hi), List.getElem?_map] at q
    cases hq : ds[i]? with
    | none => rw [hq] at q; cases q
    | some x =>
      rw [hq] at q
      cases q
      obtain ⟨v, h1, h2⟩ := h.get hq
      refine ⟨v, ?_, h2⟩
      unfold L2.start
      rw [List.getElem?_append_left (by simpa [← hl] using hi), List.getElem?_map, h1]
      rfl
  · rw [List.getElem?_append_right (by simpa using Nat.le_of_not_lt hi), List.getElem?_replicate] at q
    split at q <;> cases q
theorem fn_post {n : Nat} {m : Hw} {w : WX} {E : XK} {Q : VK} {ds : List D} {st : Sto} {g : SF} (hw : ∀ c d σ H, E c d H → w c d σ H) (hp : Post K mg (fun c d _ H => E c d H) m [] (RD K mg) Q (fnF n g ds st)) :
    PostS K mg ⟨w, none⟩ m { nx := fun _ H' => Q .non H', rt := Q } (g (ds.map some ++ List.replicate (n - ds.length) none) st) := by
  unfold fnF at hp
  split at hp
  · rename_i h; rw [h]; exact fun m' σ e r s => hp m' .non e r .non
  · rename_i h; rw [h]; exact fun m' v e r s => hp m' v e r s
  · rename_i h; rw [h]; exact fun m' σ cls dx e r s x => hw _ _ _ _ (hp m' cls dx e r x)
  · exact False.elim hp
/-- THE RULE for a def: its body means g, then it promises what g computes -/
theorem fn_ok {x qual : Str} {st : Stmt} {f : Addr} {fd : FuncData} {N ps : List Str} {k : Nat} {g : SF} (F : Fun K x qual st f fd) (S : FnScope N ps (defScope st))
    (hb : ∀ (cdv : Value) (A : Around) (outer : List Env) (s : Shared) (H : Hp) (E : XK), Room k (A.deeper (PyProof.Rows.envOfC qual (defScope st) s.heap.objs.size f cdv)) →
      SSs (cxOf (L2.CX P w) P w K mg base N qual (defScope st) f cdv A outer s H E) ⟨fun cls d _ H => E cls d H, none⟩ (defBody st) g) : FnOk P w K mg base (L2.CX P w) (k + 1) f fd ps (spF K mg ps.length (fnF N.length g)) := by
  refine F.okX S (fun vs H Q E h => ?_) (fun cdv A outer s H vs Q E hr h => ⟨_, hb cdv A outer s H E hr, ?_⟩)
  · obtain ⟨m, ds, st, _, _, h3, h4, _⟩ := h
    rw [← h3.length]; exact h4
  · obtain ⟨m, ds, st, h1, h2, h3, h4, h5⟩ := h
    exact ⟨m, _, st, h1, h2, start_rep h3, fn_post (fun _ _ _ _ z => z) h5⟩
/-- a def whose parameters have defaults -/
theorem fn_okD {x qual : Str} {st : Stmt} {f : Addr} {fd : FuncData} {N ps : List Str} {k : Nat} {g : SF} {dvs : List V} (F : FunD K x qual (defArgs st) (defBody st) (defScope st) dvs [] f fd) (S : FnScope N ps (defScope st))
    (hb : ∀ (cdv : Value) (A : Around) (outer : List Env) (s : Shared) (H : Hp) (E : XK), Room k (A.deeper (PyProof.Rows.envOfC qual (defScope st) s.heap.objs.size f cdv)) →
      SSs (cxOf (L2.CX P w) P w K mg base N qual (defScope st) f cdv A outer s H E) ⟨fun cls d _ H => E cls d H, none⟩ (defBody st) g) : FnOk P w K mg base (L2.CX P w) (k + 1) f fd ps (spF K mg ps.length (fnF N.length g)) := by
  refine F.ok S (fun vs H Q E h => ?_) (fun cdv A outer s H vs Q E hr h => ⟨_, hb cdv A outer s H E hr, ?_⟩)
  · obtain ⟨m, ds, st, _, _, h3, h4, _⟩ := h
    rw [← h3.length]; exact h4
  · obtain ⟨m, ds, st, h1, h2, h3, h4, h5⟩ := h
    exact ⟨m, _, st, h1, h2, start_rep h3, fn_post (fun _ _ _ _ z => z) h5⟩
/-- the law's promise, from what it computes -/
theorem law_ok {fa : Addr} {fd : FuncData} {k : Nat} {ps : List Str} {F : FF} (h : FnOk P w K mg base (L2.CX P w) k fa fd ps (spF K mg 1 F)) (ht : ∀ l : List Int, l.length ≤ 63 → ∃ st, F [.scr l] [] = .ok (.bl true) st) :
    FnOk P w K mg base (L2.CX P w) k fa fd ps (fun vs H Q _ => ∃ (a : Addr) (ns : List Int), vs = [.ref a] ∧ SqL K H a (ns.map V.int) ∧ ns.length ≤ 63 ∧ ∀ H', Q (.bl true) H') := by
  refine h.imp fun vs H Q E ⟨a, ns, h1, h2, h3, h4⟩ => ?_
  subst h1
  obtain ⟨st, hst⟩ := ht ns h3
  refine ⟨⟨[], fun b => if b = a then H a else none, H⟩, [.scr ns], [], rfl, ⟨fun b o e => ?_, rfl, List.nodup_nil, fun _ z => by simp at z, fun n b so e => by simp at e⟩, .one (.scr ?_), rfl, ?_⟩
  · have e : (if b = a then H a else none) = some o := e
    split at e
    · rename_i q; rw [q]; exact e
    · cases e
  · rcases h2 with (h | ⟨o, h⟩) | h
    · exact .inl (.inl (by show (if a = a then H a else none) = _; rw [if_pos rfl]; exact h))
    · exact .inl (.inr ⟨o, by show (if a = a then H a else none) = _; rw [if_pos rfl]; exact h⟩)
    · exact .inr h
  · rw [hst]
    intro m' v e r q
    cases q
    exact h4 m'.h
end
end Sh
/-! Part H: defs as they stand behind the top, by names; the head's facts; the end. -/
namespace Sh
open PySem L2 He
theorem _root_.L2.FunD.lk {K : PySem.W.Frag} {x qual : Str} {params : Arguments} {body : List Stmt} {scope : Scope} {dvs : List V} {kws : List (Str × V)} {f : Addr} {fd : FuncData} (F : FunD K x qual params body scope dvs kws f fd) : ∃ oc od osl, K.lookup f = some ⟨oc, od, .func fd, osl⟩ := by
  obtain ⟨oc, od, dV, kV, doc, pm, an, cdv, ct, osl, _, lk, _⟩ := F.ex
  exact ⟨oc, od, osl, lk⟩
/-- a def that keeps its promise, with its defaults -/
structure DefOk (P : Program) (w : World) (K : PySem.W.Frag) (mg : Str → Option Value) (base : Heap) (k : Nat) (f : Addr) (ps : List Str) (dvs : List V) (F : FF) : Prop where
  ex : ∃ fd, FnOk P w K mg base (L2.CX P w) k f fd ps (spF K mg ps.length F) ∧ (∀ j, j ≤ dvs.length → ∃ ds, Vals (dvs.drop j) ds ∧ Binds K fd ps ds) ∧ ∃ oc od osl, K.lookup f = some ⟨oc, od, .func fd, osl⟩
  kp : PySem.W.keepIn K (.ref f) = true
section
variable {X : Cx} {W : We} {e o : Expr} {es : List Expr} {fo : EF} {g : AF} {pos p apos : Pos} {x m : Str} {k : Nat} {fa C : Addr} {ps : List Str} {dvs : List V} {dds : List D} {F : FF} {j : Nat}
theorem se_callD (h : DefOk X.prog X.w X.K X.mg X.base k fa ps dvs F) (j : Nat) (hj : j ≤ dvs.length) (hd : ∀ r G, Reps X.K X.mg r G dds (dvs.drop j)) (hr : Room k X.A) (tk : Takes X W.w) (hg : Gl X x) (hm : X.mg x = some (.ref fa))
    (ha : SA X W (e :: es) g) (hdb : (x == ("__debug__" : Str)) = false := by decide) (he : starEach (e :: es) X.env = (false, eval e X.env) :: starEach es X.env := by rfl) (hpl : (backTo pos (starEach es X.env)).any (·.1) = false := by rfl) :
    SE X W (.Call (.Name x p) (e :: es) [] pos) (fCall (cF F ps.length dds) g) := by
  obtain ⟨⟨fd, h1, h2, _⟩, h3⟩ := h
  obtain ⟨ds, v, b⟩ := h2 j hj
  exact se_call h1 hr tk hg hm h3 b ⟨v, hd⟩ ha hdb he hpl
theorem se_call0D (h : DefOk X.prog X.w X.K X.mg X.base k fa ps dvs F) (j : Nat) (hj : j ≤ dvs.length) (hd : ∀ r G, Reps X.K X.mg r G dds (dvs.drop j)) (hr : Room k X.A) (tk : Takes X W.w) (hg : Gl X x) (hm : X.mg x = some (.ref fa))
    (hdb : (x == ("__debug__" : Str)) = false := by decide) : SE X W (.Call (.Name x p) [] [] pos) (fun _ st => cF F ps.length dds [] st) := by
  obtain ⟨⟨fd, h1, h2, _⟩, h3⟩ := h
  obtain ⟨ds, v, b⟩ := h2 j hj
  exact se_call0 h1 hr tk hg hm h3 b ⟨v, hd⟩ hdb
theorem se_methD {c : Nat} {pl : Sem Bool} (h : DefOk X.prog X.w X.K X.mg X.base k fa ps dvs F) (j : Nat) (hj : j ≤ dvs.length) (hd : ∀ r G, Reps X.K X.mg r G dds (dvs.drop j)) (hr : Room k X.A) (tk : Takes X W.w) (hc : X.mg (cName c) = some (.ref C)) (cl : Cls X.K C) (hme : Meth X.K C m fa) (hnf : m ∉ cFlds c)
    (ho : SE X W o fo) (ha : SA X W (e :: es) g) (hst : starEach (e :: es) X.env = (false, eval e X.env) :: starEach es X.env := by rfl) (hpl : (backTo pos (starEach es X.env)).any (·.1) = false := by rfl)
    (ht : eval (.Call (.Attribute o m apos) (e :: es) [] pos) X.env = (do let ov ← eval o X.env; standAt apos.atName; let (f, first) ← holding [ov] (getMethod ov m pl); callWith pos f first (backTo pos (starEach (e :: es) X.env)) (backToKw pos (keywordEach [] X.env))) := by rfl) :
    SE X W (.Call (.Attribute o m apos) (e :: es) [] pos) (fMeth c F ps.length dds fo g) := by
  obtain ⟨⟨fd, h1, h2, _⟩, h3⟩ := h
  obtain ⟨ds, v, b⟩ := h2 j hj
  exact se_meth (pl := pl) h1 hr tk hc cl hme hnf b ⟨v, hd⟩ ho ha hst hpl ht
theorem se_meth0D {c : Nat} {pl : Sem Bool} (h : DefOk X.prog X.w X.K X.mg X.base k fa ps dvs F) (j : Nat) (hj : j ≤ dvs.length) (hd : ∀ r G, Reps X.K X.mg r G dds (dvs.drop j)) (hr : Room k X.A) (tk : Takes X W.w) (hc : X.mg (cName c) = some (.ref C)) (cl : Cls X.K C) (hme : Meth X.K C m fa) (hnf : m ∉ cFlds c)
    (ho : SE X W o fo)
    (ht : eval (.Call (.Attribute o m apos) [] [] pos) X.env = (do let ov ← eval o X.env; standAt apos.atName; let (f, first) ← holding [ov] (getMethod ov m pl); callWith pos f first (backTo pos (starEach [] X.env)) (backToKw pos (keywordEach [] X.env))) := by rfl) :
    SE X W (.Call (.Attribute o m apos) [] [] pos) (fMeth c F ps.length dds fo aNil) := by
  obtain ⟨⟨fd, h1, h2, _⟩, h3⟩ := h
  obtain ⟨ds, v, b⟩ := h2 j hj
  exact se_meth0 (pl := pl) h1 hr tk hc cl hme hnf b ⟨v, hd⟩ ho ht
theorem se_makeD {ci : Nat} (h : DefOk X.prog X.w X.K X.mg X.base k fa ps dvs F) (j : Nat) (hj : j ≤ dvs.length) (hd : ∀ r G, Reps X.K X.mg r G dds (dvs.drop j)) (hr : Room (k + 1) X.A) (tk : Takes X W.w) (hc : X.mg (cName ci) = some (.ref C)) (M : Mk X.K C fa) (hg : Gl X x) (hm : X.mg x = some (.ref C))
    (ha : SA X W (e :: es) g) (hdb : (x == ("__debug__" : Str)) = false := by decide) (he : starEach (e :: es) X.env = (false, eval e X.env) :: starEach es X.env := by rfl) (hpl : (backTo pos (starEach es X.env)).any (·.1) = false := by rfl) :
    SE X W (.Call (.Name x p) (e :: es) [] pos) (fCall (mkF ci F ps.length dds) g) := by
  obtain ⟨⟨fd, h1, h2, _⟩, h3⟩ := h
  obtain ⟨ds, v, b⟩ := h2 j hj
  exact se_make hc M h1 hr tk hg hm b ⟨v, hd⟩ ha hdb he hpl
theorem se_make0D {ci : Nat} (h : DefOk X.prog X.w X.K X.mg X.base k fa ps dvs F) (j : Nat) (hj : j ≤ dvs.length) (hd : ∀ r G, Reps X.K X.mg r G dds (dvs.drop j)) (hr : Room (k + 1) X.A) (tk : Takes X W.w) (hc : X.mg (cName ci) = some (.ref C)) (M : Mk X.K C fa) (hg : Gl X x) (hm : X.mg x = some (.ref C))
    (hdb : (x == ("__debug__" : Str)) = false := by decide) : SE X W (.Call (.Name x p) [] [] pos) (fCall (mkF ci F ps.length dds) aNil) := by
  obtain ⟨⟨fd, h1, h2, _⟩, h3⟩ := h
  obtain ⟨ds, v, b⟩ := h2 j hj
  exact se_make0 hc M h1 hr tk hg hm b ⟨v, hd⟩ hdb
end
/-! a def without defaults; with some -/
section
variable {P : Program} {w : World} {K : PySem.W.Frag} {mg : Str → Option Value} {base : Heap} {x qual : Str} {st : Stmt} {f : Addr} {N ps : List Str} {k : Nat} {g : SF} {dvs : List V}
abbrev BodyOk (P : Program) (w : World) (K : PySem.W.Frag) (mg : Str → Option Value) (base : Heap) (N : List Str) (qual : Str) (st : Stmt) (f : Addr) (k : Nat) (g : SF) : Prop :=
  ∀ (cdv : Value) (A : Around) (outer : List Env) (s : Shared) (H : Hp) (E : XK), Room k (A.deeper (PyProof.Rows.envOfC qual (defScope st) s.heap.objs.size f cdv)) →
      SSs (cxOf (L2.CX P w) P w K mg base N qual (defScope st) f cdv A outer s H E) ⟨fun cls d _ H => E cls d H, none⟩ (defBody st) g
theorem def_ok (F : ∃ fd, FunD K x qual (defArgs st) (defBody st) (defScope st) [] [] f fd) (S : FnScope N ps (defScope st))
    (hb : ∀ (kV doc pm : Value) (an : Option Addr) (cdv ct : Value) (us : List Value), us.length = ps.length → bindArgs (PySem.W.fnOf x qual (defArgs st) (defBody st) (defScope st) .none kV doc pm an cdv ct) ⟨us, []⟩ = pure (ps.zip us))
    (h : BodyOk P w K mg base N qual st f k g) : DefOk P w K mg base (k + 1) f ps [] (fnF N.length g) := by
  obtain ⟨fd, F⟩ := F
  refine ⟨⟨fd, fn_okD F S h, fun j hj => ⟨[], ?_, FunD.bindsN F hb⟩, F.lk⟩, F.kp⟩
  simp
  exact .nil
theorem def_okD (F : ∃ fd, FunD K x qual (defArgs st) (defBody st) (defScope st) dvs [] f fd) (S : FnScope N ps (defScope st)) (hd : dvs ≠ []) (hl : dvs.length ≤ ps.length)
    (hb : ∀ j, j ≤ dvs.length → ∀ (T : Addr) (kV doc pm : Value) (an : Option Addr) (cdv ct : Value) (us its : List Value), us.length = ps.length - (dvs.length - j) → its.length = dvs.length →
      ∃ k, bindArgs (PySem.W.fnOf x qual (defArgs st) (defBody st) (defScope st) (.ref T) kV doc pm an cdv ct) ⟨us, []⟩ = seqItems? (.ref T) >>= k ∧ k (some its.toArray) = pure (ps.zip (us ++ its.drop j)))
    (h : BodyOk P w K mg base N qual st f k g) : DefOk P w K mg base (k + 1) f ps dvs (fnF N.length g) := by
  obtain ⟨fd, F⟩ := F
  exact ⟨⟨fd, fn_okD F S h, fun j hj => FunD.binds1 F (ps.length - (dvs.length - j)) j hd (by omega) (hb j hj), F.lk⟩, F.kp⟩
end
/-! the head's facts: any truth values of the written part -/
abbrev AlS : Type := Bool × List FnW
def obsS (fx : List (PySem.W.Frag → Bool)) (fn : List DefD) (K : PySem.W.Frag) : AlS := ((fx.all fun f => f K) && fn.all fun d => d.ok K, fn.map fun d => fnW K d.at_)
def valS (fn : List DefD) : AlS := (true, fn.map DefD.val)
def obsSG (n : Nat) (fx : List (PySem.W.Frag → Bool)) (fn : List DefD) (g : Addr → Option Obj) : AlS := obsS fx fn (frG g (asD g n))
def hookS (n : Nat) (fx : List (PySem.W.Frag → Bool)) (fn : List DefD) : PySem.W.Hook where
  α := AlS
  obs := fun s => obsSG n fx fn s.heap.get?
  val := fun _ => valS fn
  says := fun _ h => ∃ K : PySem.W.Frag, K.In h ∧ obsS fx fn K = valS fn
  of := fun _ _ e => ⟨_, frG_in, e⟩
  keeps := fun _ _ _ ⟨K, hK, c⟩ k => ⟨K, PySem.W.Frag.In.keeps hK k, c⟩
theorem obsSG_eq {n : Nat} {fx : List (PySem.W.Frag → Bool)} {fn : List DefD} {g : Addr → Option Obj} {s : Shared} (h : ∀ a, g a = s.heap.get? a) : obsSG n fx fn g = (hookS n fx fn).obs s := by
  have e : g = s.heap.get? := funext h
  rw [e]
  rfl
section
variable {fx : List (PySem.W.Frag → Bool)} {fn : List DefD} {K : PySem.W.Frag}
theorem sFact (c : obsS fx fn K = valS fn) (i : Nat) {f : PySem.W.Frag → Bool} (h : fx[i]? = some f := by rfl) : f K = true := by
  have c1 := (Bool.and_eq_true_iff.mp (show ((fx.all fun f => f K) && fn.all fun d => d.ok K) = true from congrArg (fun z : AlS => z.1) c)).1
  exact List.all_eq_true.mp c1 f (List.mem_of_getElem? h)
theorem sDef (c : obsS fx fn K = valS fn) (i : Nat) {d : DefD} (h : fn[i]? = some d := by rfl) : ∃ fd, FunD K d.name d.qual d.params d.body d.scope (d.dvs K) (d.kws K) (fAd K d.at_) fd := by
  have c2 := (Bool.and_eq_true_iff.mp (show ((fx.all fun f => f K) && fn.all fun d => d.ok K) = true from congrArg (fun z : AlS => z.1) c)).2
  have e : fn.map (fun d => fnW K d.at_) = fn.map DefD.val := congrArg (fun z : AlS => z.2) c
  have e2 : (fn.map fun d => fnW K d.at_)[i]? = (fn.map DefD.val)[i]? := by rw [e]
  rw [List.getElem?_map, List.getElem?_map, h] at e2
  exact DefD.funD (Option.some.inj e2) (List.all_eq_true.mp c2 d (List.mem_of_getElem? h))
end
/-! facts as truth values -/
def bGlo (x : Str) (K : PySem.W.Frag) : Bool := (Fa.glo x).ok K
def bFree (x : Str) (K : PySem.W.Frag) : Bool := (Fa.free x).ok K
def bCls (x : Str) (K : PySem.W.Frag) : Bool := (Fa.cls x).ok K
def bNoat (x f : Str) (K : PySem.W.Frag) : Bool := (Fa.noat x f).ok K
def bMeth (x m : Str) (K : PySem.W.Frag) : Bool := (Fa.meth x m).ok K
def bMkr (x : Str) (K : PySem.W.Frag) : Bool := (Fa.mkr x).ok K
def bExc (x : Str) (K : PySem.W.Frag) : Bool := (Fa.exc x).ok K
def bExm (x y : Str) (b : Bool) (K : PySem.W.Frag) : Bool := (Fa.exm x y b).ok K
def bKit (x y : Str) (b : Bool) (K : PySem.W.Frag) : Bool := decide (PySem.W.kitOne K (.ref (ga K x)) (.ref (ga K y)) = some b)
def bKitT (t : String) (y : Str) (b : Bool) (K : PySem.W.Frag) : Bool := decide (PySem.W.kitOne K (.type t) (.ref (ga K y)) = some b)
def bKitU (x : Str) (t : String) (b : Bool) (K : PySem.W.Frag) : Bool := decide (PySem.W.kitOne K (.ref (ga K x)) (.type t) = some b)
def bInsC (x : Str) (K : PySem.W.Frag) : Bool := decide (PySem.W.findIn K (.ref (ga K x)) "__class__" = some (some (.builtin "object.__class__"))) && (decide (PySem.W.specialIn K (.builtin "object.__class__") "__get__" = some (some (.builtin "getset_descriptor.__get__"))) &&
  (decide (PySem.W.takesIn K (.builtin "object.__class__") = some true) && decide (PySem.W.mroIn K (ga K x) (.type "object") = some true)))
def bExcC (x : Str) (K : PySem.W.Frag) : Bool := decide (PySem.W.findIn K (.ref (ga K x)) "__getattribute__" = some (some (.builtin "BaseException.__getattribute__"))) && (decide (PySem.W.findIn K (.ref (ga K x)) "__getattr__" = some none) && (decide (PySem.W.subIn K (.ref (ga K x)) (.type "BaseException") = some true) &&
  (PySem.W.hasDictIn K (ga K x) && bInsC x K)))
section
variable {K : PySem.W.Frag}
theorem kit_ok {x y : Str} {b : Bool} (h : bKit x y b K = true) : PySem.W.kitOne K (.ref (ga K x)) (.ref (ga K y)) = some b := of_decide_eq_true h
theorem kitT_ok {t : String} {y : Str} {b : Bool} (h : bKitT t y b K = true) : PySem.W.kitOne K (.type t) (.ref (ga K y)) = some b := of_decide_eq_true h
theorem kitU_ok {x : Str} {t : String} {b : Bool} (h : bKitU x t b K = true) : PySem.W.kitOne K (.ref (ga K x)) (.type t) = some b := of_decide_eq_true h
theorem insC_ok {x : Str} (c : Cls K (ga K x)) (h : bInsC x K = true) : InsC K (ga K x) := by
  obtain ⟨h1, h⟩ := Bool.and_eq_true_iff.mp h
  obtain ⟨h2, h⟩ := Bool.and_eq_true_iff.mp h
  obtain ⟨h3, h4⟩ := Bool.and_eq_true_iff.mp h
  exact ⟨c, of_decide_eq_true h1, of_decide_eq_true h2, of_decide_eq_true h3, of_decide_eq_true h4⟩
theorem excC_ok {x : Str} (h : bExcC x K = true) : ExcC K (ga K x) := by
  obtain ⟨h1, h⟩ := Bool.and_eq_true_iff.mp h
  obtain ⟨h2, h⟩ := Bool.and_eq_true_iff.mp h
  obtain ⟨h3, h⟩ := Bool.and_eq_true_iff.mp h
  obtain ⟨h4, h⟩ := Bool.and_eq_true_iff.mp h
  obtain ⟨h5, h⟩ := Bool.and_eq_true_iff.mp h
  obtain ⟨h6, h⟩ := Bool.and_eq_true_iff.mp h
  obtain ⟨h7, h8⟩ := Bool.and_eq_true_iff.mp h
  exact ⟨of_decide_eq_true h1, of_decide_eq_true h2, of_decide_eq_true h3, h4, of_decide_eq_true h5, of_decide_eq_true h6, of_decide_eq_true h7, of_decide_eq_true h8⟩
theorem xown_ok {X : Cx} {c : Nat} {x : Str} (hx : xName c = x) (hm : X.mg x = some (.ref (ga X.K x))) (h : bExc x X.K = true) : XOwn X c (ga X.K x) := by
  obtain ⟨h1, h2, h3, h4⟩ := exc_ok h
  exact ⟨by rw [hx]; exact hm, h1, h2, raises_own h3 h4⟩
/-! isinstance with a built-in class -/
def tbl (l : List (String × Bool)) : String → Option Bool := fun t => l.lookup t
theorem tbl_ok {u : Value} : ∀ {l : List (String × Bool)}, (∀ p ∈ l, PySem.W.kitOne K (.type p.1) u = some p.2) → ∀ t b, tbl l t = some b → PySem.W.kitOne K (.type t) u = some b
  | [], _, t, b, e => by simp [tbl] at e
  | (t', b') :: l, h, t, b, e => by
    unfold tbl at e
    rw [List.lookup_cons] at e
    by_cases z : t = t'
    · subst z
      simp at e
      subst e
      exact h _ List.mem_cons_self
    · have : (t == t') = false := by simpa using z
      rw [this] at e
      exact tbl_ok (fun p hp => h p (List.mem_cons_of_mem _ hp)) t b e
def tInt : List (String × Bool) := [("int", true), ("bool", true), ("NoneType", false), ("str", false), ("tuple", false), ("list", false), ("dict", false)]
def tBool : List (String × Bool) := [("int", false), ("bool", true), ("NoneType", false), ("str", false), ("tuple", false), ("list", false), ("dict", false)]
def tStr : List (String × Bool) := [("int", false), ("bool", false), ("NoneType", false), ("str", true), ("tuple", false), ("list", false), ("dict", false)]
def tTuple : List (String × Bool) := [("int", false), ("bool", false), ("NoneType", false), ("str", false), ("tuple", true), ("list", false), ("dict", false)]
def tList : List (String × Bool) := [("int", false), ("bool", false), ("NoneType", false), ("str", false), ("tuple", false), ("list", true), ("dict", false)]
def tOwn : List (String × Bool) := [("int", false), ("bool", false), ("NoneType", false), ("str", false), ("tuple", false), ("list", false), ("dict", false)]
theorem tInt_ok : ∀ t b, tbl tInt t = some b → PySem.W.kitOne K (.type t) (.type "int") = some b := tbl_ok (by
  intro p hp
  simp [tInt] at hp
  rcases hp with h | h | h | h | h | h | h <;> (subst h; exact kit_ty (by decide +kernel)))
theorem tBool_ok : ∀ t b, tbl tBool t = some b → PySem.W.kitOne K (.type t) (.type "bool") = some b := tbl_ok (by
  intro p hp
  simp [tBool] at hp
  rcases hp with h | h | h | h | h | h | h <;> (subst h; exact kit_ty (by decide +kernel)))
theorem tStr_ok : ∀ t b, tbl tStr t = some b → PySem.W.kitOne K (.type t) (.type "str") = some b := tbl_ok (by
  intro p hp
  simp [tStr] at hp
  rcases hp with h | h | h | h | h | h | h <;> (subst h; exact kit_ty (by decide +kernel)))
theorem tTuple_ok : ∀ t b, tbl tTuple t = some b → PySem.W.kitOne K (.type t) (.type "tuple") = some b := tbl_ok (by
  intro p hp
  simp [tTuple] at hp
  rcases hp with h | h | h | h | h | h | h <;> (subst h; exact kit_ty (by decide +kernel)))
theorem tList_ok : ∀ t b, tbl tList t = some b → PySem.W.kitOne K (.type t) (.type "list") = some b := tbl_ok (by
  intro p hp
  simp [tList] at hp
  rcases hp with h | h | h | h | h | h | h <;> (subst h; exact kit_ty (by decide +kernel)))
def bOwn (y : Str) (K : PySem.W.Frag) : Bool := tOwn.all fun p => bKitT p.1 y p.2 K
theorem tOwn_ok {y : Str} (h : bOwn y K = true) : ∀ t b, tbl tOwn t = some b → PySem.W.kitOne K (.type t) (.ref (ga K y)) = some b := tbl_ok fun p hp => kitT_ok (List.all_eq_true.mp h p hp)
end
/-! the same with three names -/
section
variable {X : Cx} {W : We} {a b c : Expr} {g : AF} {pos : Pos}
@[simp] def sPar3 (i j l : Nat) (g : AF) : SF := fun sg st => (g sg st).flw sg fun ds st1 => match ds with
  | [d, d', d''] => .nx (((sg.set i (some d)).set j (some d')).set l (some d'')) st1
  | _ => .bad
theorem ss_par3 {i j l : Nat} {x y z : Str} {px py pz pt : Pos} {kt k2 pt2} (hc : X.calm = true) (hN : X.N.Nodup) (hi : X.N[i]? = some x) (hj : X.N[j]? = some y) (hl : X.N[l]? = some z) (hij : i ≠ j) (hil : i ≠ l) (hjl : j ≠ l)
    (hx : X.env.scope.names.lookup x = some .local) (hy : X.env.scope.names.lookup y = some .local) (hz : X.env.scope.names.lookup z = some .local) (ha : SA X W [a, b, c] g)
    (hw : swappedStores [.Tuple [.Name x px, .Name y py, .Name z pz] kt pt] (.Tuple [a, b, c] k2 pt2) X.env = pure (some [x, y, z]))
    (hs : swapsWithSole [.Tuple [.Name x px, .Name y py, .Name z pz] kt pt] (.Tuple [a, b, c] k2 pt2) pos.line X.env = pure false := by rfl) : SS X W (.Assign [.Tuple [.Name x px, .Name y py, .Name z pz] kt pt] (.Tuple [a, b, c] k2 pt2) pos) (sPar3 i j l g) :=
  ps_weak (ps_par3 hc hN hi hj hl hij hil hjl hx hy hz ha hw hs) fun D σ H ⟨m, sg, st, e, rm, rs, hp⟩ => ⟨m, sg, st, e, rm, rs, flwc hp rs fun m1 ds vs st1 e1 r1 q1 hp1 => by
    split at hp1
    · cases q1 with
      | cons h1 q1 =>
        obtain ⟨v, w, rfl, h2, h3⟩ := reps2 (X := X) q1
        exact ⟨_, v, w, rfl, hp1 m1 _ (Ext.refl _) r1 ((((rs.mono e1).set i h1).set j h2).set l h3)⟩
    · exact False.elim hp1⟩
theorem se_edict {x : Expr} (h : PE X x (fun _ H Q => ∀ d, H d = none → Q (.ref d) (upd H d (.dK [])))) : SE X W x (fC .edict) := pe_weak h fun σ H Q ⟨m, sg, st, e, rm, rs, hp⟩ => by
  subst e
  exact hp.lay (α := D) rm fun p hn => .edict upd_same
end
end Sh
/-! Part I: the law's end. -/
namespace Sh
open PySem L2 He
section
variable {P : Program} {w : World} {K : PySem.W.Frag} {mg : Str → Option Value} {base : Heap}
theorem fn_cx0 {f : Addr} {fd : FuncData} {k : Nat} {ps : List Str} {sp : Sp} (h : FnOk P w K mg base (L2.CX P w) k f fd ps sp) (hE : ∀ vs H Q E, sp vs H Q E → sp vs H Q fun _ _ _ => False) : FnOk P w K mg base CX0 k f fd ps sp :=
  ⟨h.len, fun A outer s H args us vs Q E hr e0 b v q => codeAny_mono (h.run A outer s H args us vs Q (fun _ _ _ => False) hr e0 b v (hE _ _ _ _ q)) fun r s' z => by
    cases r with
    | error e =>
      obtain ⟨a, B, H', cls, d, _, _, _, _, _, _, _, hz⟩ := z
      exact hz.elim
    | ok g => cases g <;> exact z⟩
def spLaw (K : PySem.W.Frag) : Sp := fun vs H Q _ => ∃ (a : Addr) (ns : List Int), vs = [.ref a] ∧ SqL K H a (ns.map V.int) ∧ ns.length ≤ 63 ∧ ∀ H', Q (.bl true) H'
/-- the law's def, as the end wants it -/
theorem law_facts {x y : Str} {st : Stmt} {N : List Str} {k : Nat} {g : SF} (FD : ∃ fd, FunD K x x (defArgs st) (defBody st) (defScope st) [] [] (ga K x) fd) (S : FnScope N [y] (defScope st))
    (h : ∀ base : Heap, BodyOk P w K mg base N x st (ga K x) k g) (ht : ∀ l : List Int, l.length ≤ 63 → ∃ st, fnF N.length g [.scr l] [] = .ok (.bl true) st)
    (hb : ∀ (kV doc pm : Value) (an : Option Addr) (cdv ct : Value) (us : List Value), us.length = [y].length → bindArgs (PySem.W.fnOf x x (defArgs st) (defBody st) (defScope st) .none kV doc pm an cdv ct) ⟨us, []⟩ = pure ([y].zip us)) :
    ∃ fd : FuncData, (∀ (s : Shared) (v : Value), BindsTo s fd ⟨[v], []⟩ [(y, v)]) ∧ ∀ base : Heap, FnOk P w K mg base CX0 (k + 1) (ga K x) fd [y] (spLaw K) := by
  obtain ⟨fd, FD⟩ := FD
  exact ⟨fd, fun s v => FunD.bindsA FD hb s [v] rfl, fun base => fn_cx0 (law_ok (fn_okD FD S (h base)) ht) fun _ _ _ _ z => z⟩
end
end Sh
/-! Part J: what the meanings compute: rules to rewrite with, loops. -/
namespace Sh
open PySem L2
@[simp] theorem ev_fnF : type_of% @fnF.eq_def := @fnF.eq_def
@[simp] theorem ev_cF : type_of% @cF.eq_def := @cF.eq_def
@[simp] theorem ev_lenOf : type_of% @lenOf.eq_def := @lenOf.eq_def
@[simp] theorem ev_bLen : type_of% @bLen.eq_def := @bLen.eq_def
@[simp] theorem ev_bAbs : type_of% @bAbs.eq_def := @bAbs.eq_def
@[simp] theorem ev_bMax : type_of% @bMax.eq_def := @bMax.eq_def
@[simp] theorem ev_bMin : type_of% @bMin.eq_def := @bMin.eq_def
@[simp] theorem ev_bInt : type_of% @bInt.eq_def := @bInt.eq_def
@[simp] theorem ev_tyD : type_of% @tyD.eq_def := @tyD.eq_def
@[simp] theorem ev_clsD : type_of% @clsD.eq_def := @clsD.eq_def
@[simp] theorem ev_insOf : type_of% @insOf.eq_def := @insOf.eq_def
@[simp] theorem ev_dAdd : type_of% @dAdd.eq_def := @dAdd.eq_def
@[simp] theorem ev_dSub : type_of% @dSub.eq_def := @dSub.eq_def
@[simp] theorem ev_dMul : type_of% @dMul.eq_def := @dMul.eq_def
@[simp] theorem ev_dDiv : type_of% @dDiv.eq_def := @dDiv.eq_def
@[simp] theorem ev_dMod : type_of% @dMod.eq_def := @dMod.eq_def
@[simp] theorem ev_dPow : type_of% @dPow.eq_def := @dPow.eq_def
@[simp] theorem ev_dNeg : type_of% @dNeg.eq_def := @dNeg.eq_def
@[simp] theorem ev_dCmpI : type_of% @dCmpI.eq_def := @dCmpI.eq_def
@[simp] theorem ev_dIsN : type_of% @dIsN.eq_def := @dIsN.eq_def
@[simp] theorem ev_dNotN : type_of% @dNotN.eq_def := @dNotN.eq_def
@[simp] theorem ev_dTru : type_of% @dTru.eq_def := @dTru.eq_def
@[simp] theorem ev_itemsOf : type_of% @itemsOf.eq_def := @itemsOf.eq_def
@[simp] theorem ev_dAt : type_of% @dAt.eq_def := @dAt.eq_def
@[simp] theorem ev_dIx : type_of% @dIx.eq_def := @dIx.eq_def
@[simp] theorem ev_stSet : type_of% @stSet.eq_def := @stSet.eq_def
@[simp] theorem ev_rSub : type_of% @rSub.eq_def := @rSub.eq_def
@[simp] theorem ev_stFld : type_of% @stFld.eq_def := @stFld.eq_def
@[simp] theorem ev_rFldS : type_of% @rFldS.eq_def := @rFldS.eq_def
@[simp] theorem ev_ixN : type_of% @ixN.eq_def := @ixN.eq_def
theorem dEq_ok {x y x' y' : D} {st : Sto} (h : eqOk x' y' = true) (hx : resD st x = x' := by rfl) (hy : resD st y = y' := by rfl) : dEq x y st = .ok (.bl (dEqv x' y')) st := by subst hx; subst hy; exact if_pos h
theorem dNe_ok {x y x' y' : D} {st : Sto} (h : eqOk x' y' = true) (hx : resD st x = x' := by rfl) (hy : resD st y = y' := by rfl) : dNe x y st = .ok (.bl (!dEqv x' y')) st := by subst hx; subst hy; exact if_pos h
@[simp] theorem dEq_ii (i j : Int) (st : Sto) : dEq (.int i) (.int j) st = .ok (.bl (decide (i = j))) st := by
  have h : eqOk (.int i) (.int j) = true := rfl
  rw [dEq_ok h]
  rfl
@[simp] theorem dNe_ii (i j : Int) (st : Sto) : dNe (.int i) (.int j) st = .ok (.bl (!decide (i = j))) st := by
  have h : eqOk (.int i) (.int j) = true := rfl
  rw [dNe_ok h]
  rfl
@[simp] theorem dEq_t3 (a b c d e f : Int) (st : Sto) : dEq (.tup [.int a, .int b, .int c]) (.tup [.int d, .int e, .int f]) st = .ok (.bl (decide (a = d) && (decide (b = e) && decide (c = f)))) st := by
  have h : eqOk (.tup [.int a, .int b, .int c]) (.tup [.int d, .int e, .int f]) = true := rfl
  rw [dEq_ok h]
  have z : ∀ x y : Int, (x == y) = decide (x = y) := fun _ _ => rfl
  simp [z]
@[simp] theorem dNe_t3 (a b c d e f : Int) (st : Sto) : dNe (.tup [.int a, .int b, .int c]) (.tup [.int d, .int e, .int f]) st = .ok (.bl !(decide (a = d) && (decide (b = e) && decide (c = f)))) st := by
  have h : eqOk (.tup [.int a, .int b, .int c]) (.tup [.int d, .int e, .int f]) = true := rfl
  rw [dNe_ok h]
  have z : ∀ x y : Int, (x == y) = decide (x = y) := fun _ _ => rfl
  simp [z]
/-! isinstance by cases -/
@[simp] theorem isi_int (i : Int) (cl : List (Nat × Bool)) (st : Sto) : bIsi (tbl tInt) cl (.int i) st = .ok (.bl true) st ∧ bIsi (tbl tBool) cl (.int i) st = .ok (.bl false) st ∧ bIsi (tbl tStr) cl (.int i) st = .ok (.bl false) st ∧ bIsi (tbl tTuple) cl (.int i) st = .ok (.bl false) st ∧ bIsi (tbl tList) cl (.int i) st = .ok (.bl false) st ∧ bIsi (tbl tOwn) cl (.int i) st = .ok (.bl false) st := ⟨rfl, rfl, rfl, rfl, rfl, rfl⟩
@[simp] theorem isi_bl (i : Bool) (cl : List (Nat × Bool)) (st : Sto) : bIsi (tbl tInt) cl (.bl i) st = .ok (.bl true) st ∧ bIsi (tbl tBool) cl (.bl i) st = .ok (.bl true) st ∧ bIsi (tbl tStr) cl (.bl i) st = .ok (.bl false) st ∧ bIsi (tbl tTuple) cl (.bl i) st = .ok (.bl false) st ∧ bIsi (tbl tList) cl (.bl i) st = .ok (.bl false) st ∧ bIsi (tbl tOwn) cl (.bl i) st = .ok (.bl false) st := ⟨rfl, rfl, rfl, rfl, rfl, rfl⟩
@[simp] theorem isi_non (cl : List (Nat × Bool)) (st : Sto) : bIsi (tbl tInt) cl .non st = .ok (.bl false) st ∧ bIsi (tbl tBool) cl .non st = .ok (.bl false) st ∧ bIsi (tbl tStr) cl .non st = .ok (.bl false) st ∧ bIsi (tbl tTuple) cl .non st = .ok (.bl false) st ∧ bIsi (tbl tList) cl .non st = .ok (.bl false) st ∧ bIsi (tbl tOwn) cl .non st = .ok (.bl false) st := ⟨rfl, rfl, rfl, rfl, rfl, rfl⟩
@[simp] theorem isi_str (i : Str) (cl : List (Nat × Bool)) (st : Sto) : bIsi (tbl tInt) cl (.str i) st = .ok (.bl false) st ∧ bIsi (tbl tBool) cl (.str i) st = .ok (.bl false) st ∧ bIsi (tbl tStr) cl (.str i) st = .ok (.bl true) st ∧ bIsi (tbl tTuple) cl (.str i) st = .ok (.bl false) st ∧ bIsi (tbl tList) cl (.str i) st = .ok (.bl false) st ∧ bIsi (tbl tOwn) cl (.str i) st = .ok (.bl false) st := ⟨rfl, rfl, rfl, rfl, rfl, rfl⟩
@[simp] theorem isi_tup (i : List D) (cl : List (Nat × Bool)) (st : Sto) : bIsi (tbl tInt) cl (.tup i) st = .ok (.bl false) st ∧ bIsi (tbl tBool) cl (.tup i) st = .ok (.bl false) st ∧ bIsi (tbl tStr) cl (.tup i) st = .ok (.bl false) st ∧ bIsi (tbl tTuple) cl (.tup i) st = .ok (.bl true) st ∧ bIsi (tbl tList) cl (.tup i) st = .ok (.bl false) st ∧ bIsi (tbl tOwn) cl (.tup i) st = .ok (.bl false) st := ⟨rfl, rfl, rfl, rfl, rfl, rfl⟩
@[simp] theorem isi_lst (i : List D) (cl : List (Nat × Bool)) (st : Sto) : bIsi (tbl tInt) cl (.lst i) st = .ok (.bl false) st ∧ bIsi (tbl tBool) cl (.lst i) st = .ok (.bl false) st ∧ bIsi (tbl tStr) cl (.lst i) st = .ok (.bl false) st ∧ bIsi (tbl tTuple) cl (.lst i) st = .ok (.bl false) st ∧ bIsi (tbl tList) cl (.lst i) st = .ok (.bl true) st ∧ bIsi (tbl tOwn) cl (.lst i) st = .ok (.bl false) st := ⟨rfl, rfl, rfl, rfl, rfl, rfl⟩
@[simp] theorem isi_ed (cl : List (Nat × Bool)) (st : Sto) : bIsi (tbl tInt) cl .edict st = .ok (.bl false) st ∧ bIsi (tbl tBool) cl .edict st = .ok (.bl false) st ∧ bIsi (tbl tStr) cl .edict st = .ok (.bl false) st ∧ bIsi (tbl tTuple) cl .edict st = .ok (.bl false) st ∧ bIsi (tbl tList) cl .edict st = .ok (.bl false) st ∧ bIsi (tbl tOwn) cl .edict st = .ok (.bl false) st := ⟨rfl, rfl, rfl, rfl, rfl, rfl⟩
@[simp] theorem isi_ins (tb : String → Option Bool) (c : Nat) (l : List D) (cl : List (Nat × Bool)) (st : Sto) : bIsi tb cl (.ins c l) st = match cl.lookup c with
  | some b => .ok (.bl b) st
  | none => .bad := rfl
theorem dMulI {i j : Int} {st : Sto} (h : mulOk i j) : dMul (.int i) (.int j) st = .ok (.int (i * j)) st := by simp [h]
theorem dDivI {i j : Int} {st : Sto} (h : 0 < j) (h2 : divOk j) : dDiv (.int i) (.int j) st = .ok (.int (i / j)) st := by simp [h, h2]
theorem dModI {i j : Int} {st : Sto} (h : 0 < j) : dMod (.int i) (.int j) st = .ok (.int (i % j)) st := by simp [h]
theorem dPowI {i j : Int} {st : Sto} (h : powOk i j) : dPow (.int i) (.int j) st = .ok (.int (i ^ j.toNat)) st := by simp [h]
theorem nat_lt_pow {i : Int} {n : Nat} (h0 : 0 ≤ i) (h : i < 2 ^ n) : i.natAbs < 2 ^ n := by
  have e : ((i.natAbs : Nat) : Int) = i := Int.natAbs_of_nonneg h0
  have : ((i.natAbs : Nat) : Int) < ((2 ^ n : Nat) : Int) := by rw [e]; simpa using h
  exact_mod_cast this
theorem abs_lt_pow {i : Int} {n : Nat} (h0 : -(2 ^ n) < i) (h : i < 2 ^ n) : i.natAbs < 2 ^ n := by
  rcases Int.le_total 0 i with z | z
  · exact nat_lt_pow z h
  · have := nat_lt_pow (i := -i) (n := n) (by omega) (by omega)
    simpa using this
theorem powOk_of {i : Int} {j n : Nat} (h : i.natAbs < 2 ^ n) (hn : 0 < n) (hj : n * j ≤ 2 ^ 27) : powOk i j := by
  have y := log2_lt' h hn
  refine ⟨Int.natCast_nonneg j, ?_⟩
  have : (i.natAbs.log2 + 1) * j ≤ n * j := Nat.mul_le_mul_right _ (by omega)
  have h2 : (i.natAbs.log2 + 1) * j ≤ 2 ^ 27 := by omega
  have h3 : (((i.natAbs.log2 + 1) * j : Nat) : Int) ≤ ((2 ^ 27 : Nat) : Int) := Int.ofNat_le.mpr h2
  simpa using h3
/-! loops -/
@[simp] theorem dEq_t2 (a b d e : Int) (st : Sto) : dEq (.tup [.int a, .int b]) (.tup [.int d, .int e]) st = .ok (.bl (decide (a = d) && decide (b = e))) st := by
  have h : eqOk (.tup [.int a, .int b]) (.tup [.int d, .int e]) = true := rfl
  rw [dEq_ok h]
  have z : ∀ x y : Int, (x == y) = decide (x = y) := fun _ _ => rfl
  simp [z]
@[simp] theorem dNe_nil (st : Sto) : dNe (.lst []) (.lst []) st = .ok (.bl false) st := by
  have h : eqOk (.lst []) (.lst []) = true := rfl
  rw [dNe_ok h]
  rfl
/-! sizes -/
def Bd (n : Nat) (x : Int) : Prop := x.natAbs < 2 ^ n
theorem Bd.mono {n m : Nat} {x : Int} (h : Bd n x) (e : n ≤ m) : Bd m x := Nat.lt_of_lt_of_le h (Nat.pow_le_pow_right (by decide) e)
theorem Bd.add {n m : Nat} {x y : Int} (h : Bd n x) (k : Bd m y) : Bd (n + m + 1) (x + y) := by
  have h1 := h.mono (show n ≤ n + m by omega)
  have k1 := k.mono (show m ≤ n + m by omega)
  unfold Bd at *
  have : (x + y).natAbs ≤ x.natAbs + y.natAbs := Int.natAbs_add_le x y
  rw [Nat.pow_succ]; omega
theorem Bd.neg {n : Nat} {x : Int} (h : Bd n x) : Bd n (-x) := by unfold Bd at *; rwa [Int.natAbs_neg]
theorem Bd.sub {n m : Nat} {x y : Int} (h : Bd n x) (k : Bd m y) : Bd (n + m + 1) (x - y) := by rw [Int.sub_eq_add_neg]; exact h.add k.neg
theorem Bd.mul {n m : Nat} {x y : Int} (h : Bd n x) (k : Bd m y) : Bd (n + m) (x * y) := by
  unfold Bd at *
  rw [Int.natAbs_mul, Nat.pow_add]
  exact Nat.mul_lt_mul'' h k
theorem Bd.of {n : Nat} {x : Int} (h : -(2 ^ n) < x) (k : x < 2 ^ n) : Bd n x := abs_lt_pow h k
theorem Bd.fac {n : Nat} {g x y : Int} (h : Bd n x) (hg : 0 < g) (e : x = g * y) : Bd n y := by
  unfold Bd at *
  rw [e, Int.natAbs_mul] at h
  have : 1 ≤ g.natAbs := by omega
  exact Nat.lt_of_le_of_lt (Nat.le_mul_of_pos_left _ this) h
theorem Bd.mulOk {n m : Nat} {x y : Int} (h : Bd n x) (k : Bd m y) (e : n + m ≤ 100000 := by decide) : Sh.mulOk x y :=
  mulOk_of (h.mono (Nat.le_succ n)) (k.mono (Nat.le_succ m)) (Nat.succ_pos _) (Nat.succ_pos _) (by omega)
theorem Bd.divOk {n : Nat} {x : Int} (h : Bd n x) (e : n ≤ 8000 := by decide) : Sh.divOk x := divOk_of (h.mono (Nat.le_succ n)) (Nat.succ_pos _) (by omega)
/-! comprehensions -/
theorem lc_keep {ck : Sto → Prop} {t : Tg} {c : TF} {f : EF} {sg : Sg} {st : Sto} (keep : D → Option D) (hc : ck st) : ∀ l : List D,
    (∀ d ∈ l, ∃ sg1, setT t d sg = some sg1 ∧ ((c sg1 st = .ok false st ∧ keep d = none) ∨ (c sg1 st = .ok true st ∧ ∃ y, f sg1 st = .ok y st ∧ keep d = some y))) → lcF ck t c f sg l st = .ok (l.filterMap keep) st
  | [], _ => by unfold lcF; rw [if_pos hc]; rfl
  | d :: l, h => by
    have ih := lc_keep (c := c) (f := f) (sg := sg) keep hc l fun x hx => h x (List.mem_cons_of_mem _ hx)
    obtain ⟨sg1, e1, e2⟩ := h d List.mem_cons_self
    unfold lcF
    rw [if_pos hc, e1]
    rcases e2 with ⟨e2, e3⟩ | ⟨e2, y, e3, e4⟩
    · simp [e2, e3, ih]
    · simp [e2, e3, e4, ih]
theorem for_nil {ck : Sto → Prop} {t : Tg} {g : SF} {sg : Sg} {st : Sto} (h : ck st) : forF ck t g [] sg st = .nx sg st := by simp [forF, h]
theorem for_cons {ck : Sto → Prop} {t : Tg} {g : SF} {d : D} {l : List D} {sg sg1 : Sg} {st : Sto} (h : ck st) (e : setT t d sg = some sg1) : forF ck t g (d :: l) sg st = (g sg1 st).loop (forF ck t g l) := by
  conv => lhs; unfold forF
  rw [if_pos h, e]
/-- a loop that runs to its end; J i: what holds ahead of turn i -/
theorem for_run {ck : Sto → Prop} {t : Tg} {g : SF} : ∀ (l : List D) (J : Nat → Sg → Sto → Prop) (sg : Sg) (st : Sto), J 0 sg st → (∀ i sg st, J i sg st → ck st) →
    (∀ i d sg st, l[i]? = some d → J i sg st → ∃ sg1, setT t d sg = some sg1 ∧ ∃ sg' st', (g sg1 st = .nx sg' st' ∨ g sg1 st = .cnt sg' st') ∧ J (i + 1) sg' st') →
    ∃ sg' st', forF ck t g l sg st = .nx sg' st' ∧ J l.length sg' st'
  | [], J, sg, st, h0, hc, hs => ⟨sg, st, for_nil (hc _ _ _ h0), h0⟩
  | d :: l, J, sg, st, h0, hc, hs => by
    obtain ⟨sg1, e1, sg', st', e2, j1⟩ := hs 0 d sg st rfl h0
    obtain ⟨sg2, st2, e3, j2⟩ := for_run l (fun i => J (i + 1)) sg' st' j1 (fun i sg st z => hc _ _ _ z) fun i d sg st q z => hs (i + 1) d sg st (by simpa using q) z
    refine ⟨sg2, st2, ?_, j2⟩
    rw [for_cons (hc _ _ _ h0) e1]
    rcases e2 with e2 | e2 <;> rw [e2] <;> exact e3
/-- one thing stays true, whatever the turn -/
theorem for_all {ck : Sto → Prop} {t : Tg} {g : SF} {l : List D} {sg : Sg} {st : Sto} (I : Sg → Sto → Prop) (h0 : I sg st) (hc : ∀ sg st, I sg st → ck st)
    (hs : ∀ d sg st, d ∈ l → I sg st → ∃ sg1, setT t d sg = some sg1 ∧ ∃ sg' st', (g sg1 st = .nx sg' st' ∨ g sg1 st = .cnt sg' st') ∧ I sg' st') :
    ∃ sg' st', forF ck t g l sg st = .nx sg' st' ∧ I sg' st' :=
  for_run l (fun _ => I) sg st h0 (fun _ => hc) fun i d sg st q z => hs d sg st (List.mem_of_getElem? q) z
/-- where a body comes to its end, or goes on -/
def Flw.to (P : Sg → Sto → Prop) : Flw → Prop
  | .nx sg st => P sg st
  | .cnt sg st => P sg st
  | _ => False
@[simp] theorem to_nx {P : Sg → Sto → Prop} {sg : Sg} {st : Sto} : (Flw.nx sg st).to P = P sg st := rfl
@[simp] theorem to_cnt {P : Sg → Sto → Prop} {sg : Sg} {st : Sto} : (Flw.cnt sg st).to P = P sg st := rfl
theorem to_cg {x y : Flw} {P : Sg → Sto → Prop} (h : x = y) : x.to P = y.to P := by rw [h]
theorem to_of {P : Sg → Sto → Prop} {f : Flw} (h : f.to P) : ∃ sg' st', (f = .nx sg' st' ∨ f = .cnt sg' st') ∧ P sg' st' := by
  cases f with
  | nx sg st => exact ⟨sg, st, .inl rfl, h⟩
  | cnt sg st => exact ⟨sg, st, .inr rfl, h⟩
  | _ => exact h.elim
theorem for_to {ck : Sto → Prop} {t : Tg} {g : SF} {l : List D} {sg : Sg} {st : Sto} (I : Sg → Sto → Prop) (h0 : I sg st) (hc : ∀ sg st, I sg st → ck st)
    (hs : ∀ d sg st, d ∈ l → I sg st → ∃ sg1, setT t d sg = some sg1 ∧ (g sg1 st).to I) : ∃ sg' st', forF ck t g l sg st = .nx sg' st' ∧ I sg' st' :=
  for_all I h0 hc fun d sg st hd hi => let ⟨sg1, e, h⟩ := hs d sg st hd hi; ⟨sg1, e, to_of h⟩
theorem for_toN {ck : Sto → Prop} {t : Tg} {g : SF} {l : List D} {sg : Sg} {st : Sto} (J : Nat → Sg → Sto → Prop) (h0 : J 0 sg st) (hc : ∀ i sg st, J i sg st → ck st)
    (hs : ∀ i d sg st, l[i]? = some d → J i sg st → ∃ sg1, setT t d sg = some sg1 ∧ (g sg1 st).to (J (i + 1))) : ∃ sg' st', forF ck t g l sg st = .nx sg' st' ∧ J l.length sg' st' :=
  for_run l J sg st h0 hc fun i d sg st hd hi => let ⟨sg1, e, h⟩ := hs i d sg st hd hi; ⟨sg1, e, to_of h⟩
theorem wh_step {t : TF} {g : SF} {n : Nat} {sg : Sg} {st : Sto} : whF t g (n + 1) sg st = (t sg st).flw sg fun b st1 => if b = true then (g sg st1).loop (whF t g n) else .nx sg st1 := rfl
theorem fuel_big : 2 ^ 4000 ≤ fuel := by unfold fuel; exact Nat.le_refl _
theorem fuel_eq {m : Nat} (h : m ≤ 2 ^ 4000) : ∃ n, fuel = m + n := ⟨fuel - m, by have := fuel_big; omega⟩
theorem mem_rng {lo : Int} {n : Nat} {d : D} (h : d ∈ rngD lo n) : ∃ i : Nat, i < n ∧ d = .int (lo + i) := by
  unfold rngD at h
  obtain ⟨i, h1, h2⟩ := List.mem_map.mp h
  exact ⟨i, by simpa using h1, h2.symm⟩
/-- the turns of a law's own loop -/
theorem law_rng {l : List Int} {n : Int} {sg : Sg} {st : Sto} (h : sg[0]? = some (some (.scr l))) (hn : 1 ≤ n) (hn2 : n ≤ 64) : ∃ m : Nat, (m : Int) ≤ n ∧
    iRange1 (aCons (fCall bMax (aCons (fC (.int 1)) (aCons (fCall bMin (aCons (fC (.int n)) (aCons (fCall bLen (aCons (fVar 0) aNil)) aNil))) aNil))) aNil) sg st = .ok ⟨rngD 0 m, fun _ => True⟩ st := by
  generalize hm : (if (1 : Int) < (if (l.length : Int) < n then (l.length : Int) else n) then (if (l.length : Int) < n then (l.length : Int) else n) else 1) = m
  have hm1 : 1 ≤ m ∧ m ≤ n := by rw [← hm]; split <;> split <;> omega
  refine ⟨m.toNat, by omega, ?_⟩
  simp -implicitDefEqProofs [h, hm]
  omega
end Sh
/-! Part K: operators that a class defines; keywords. -/
namespace Sh
open PySem L2 He
/-- what a two-place operation means, the wish of the slots within -/
def BinS (X : Cx) (W : We) (f : Value → Value → Sem Value) (sem : D → D → Sto → Res D) : Prop :=
  ∀ (pins : List (Addr × Obj)) (s : Shared) (σ : St) (m : Hw) (st : Sto) (x y : D) (xv yv : V) (v u : Value) (Q : VK), Inv X pins σ m.h s → RelV xv v → RelV yv u → Rel X.K X.mg m st → Rep X.K X.mg m.r m.g x xv → Rep X.K X.mg m.r m.g y yv →
    Post X.K X.mg W.w m σ (RD X.K X.mg) Q (sem x y st) → wpAny (model X.prog X.w) X.A (f v u) (EP X pins σ Q) X.xe s
def UnS (X : Cx) (W : We) (f : Value → Sem Value) (sem : D → Sto → Res D) : Prop :=
  ∀ (pins : List (Addr × Obj)) (s : Shared) (σ : St) (m : Hw) (st : Sto) (x : D) (xv : V) (v : Value) (Q : VK), Inv X pins σ m.h s → RelV xv v → Rel X.K X.mg m st → Rep X.K X.mg m.r m.g x xv →
    Post X.K X.mg W.w m σ (RD X.K X.mg) Q (sem x st) → wpAny (model X.prog X.w) X.A (f v) (EP X pins σ Q) X.xe s
section
variable {X : Cx} {W : We} {a b : Expr} {fa fb : EF} {pos : Pos} {sem base : D → D → Sto → Res D} {sem1 base1 : D → Sto → Res D} {f : Value → Value → Sem Value} {k c : Nat} {g C : Addr} {F : FF} {ps : List Str} {m : Str}
theorem BinS.of {r : R2} (ho : OpR X f r) (hs : Fits2 X W r sem) : BinS X W f sem := fun pins s σ m st x y xv yv v u Q I rx ry rm qx qy hp => ho pins s σ m.h xv yv v u Q I rx ry (hs m st σ x y xv yv Q rm qx qy hp)
theorem UnS.of {f : Value → Sem Value} {r : V → Hp → VK → Prop} (ho : UnR X f r) (hs : Fits1 X W r sem1) : UnS X W f sem1 := fun pins s σ m st x xv v Q I rx rm qx hp => ho pins s σ m.h xv v Q I rx (hs m st σ x xv Q rm qx hp)
/-- both sides, then what is done with them -/
theorem bin_of (h : BinS X W f sem) (ha : SE X W a fa) (hb : SE X W b fb) {pins : List (Addr × Obj)} {s : Shared} {σ : St} {H : Hp} {Q : VK} (I : Inv X pins σ H s) (t : TOf X.K X.mg W (RD X.K X.mg) (fBin sem fa fb) σ H Q) :
    wpAny (model X.prog X.w) X.A (eval a X.env) (fun v s₁ => wpAny (model X.prog X.w) X.A (eval b X.env) (fun u s₂ => wpAny (model X.prog X.w) X.A (f v u) (EP X pins σ Q) X.xe s₂) X.xe s₁) X.xe s := by
  obtain ⟨w, sg, st, rfl, rm, rs, hp⟩ := t
  refine thn (ha.run pins s σ w.h (MPost X W σ sg Q fun x st1 => (fb sg st1).bind fun y st2 => sem x y st2) I ⟨w, sg, st, rfl, rm, rs, hp.bindc fun m1 x v st1 e1 r1 q1 hp1 => ⟨m1, x, st1, rfl, r1, rs.mono e1, q1, hp1⟩⟩) fun u s1 hh => ?_
  obtain ⟨v, H1, I1, rv, m1, x, st1, rfl, r1, rs1, q1, hp1⟩ := hh
  refine thn (hb.run pins s1 σ m1.h (fun v2 H2 => ∃ m2 y st2, m2.h = H2 ∧ Ext m1 m2 ∧ Rel X.K X.mg m2 st2 ∧ Rep X.K X.mg m2.r m2.g y v2 ∧ Post X.K X.mg W.w m2 σ (RD X.K X.mg) Q (sem x y st2)) I1
    ⟨m1, sg, st1, rfl, r1, rs1, hp1.bindc fun m2 y v2 st2 e2 r2 q2 hp2 => ⟨m2, y, st2, rfl, e2, r2, q2, hp2⟩⟩) fun u2 s2 hz => ?_
  obtain ⟨v2, H2, I2, rv2, m2, y, st2, rfl, e2, r2, q2, hp2⟩ := hz
  exact h pins s2 σ m2 st2 x y v v2 u u2 Q I2 rv rv2 r2 (q1.mono e2) q2 hp2
theorem se_binS {op : Operator} (h : BinS X W (binaryOp op) sem) (ha : SE X W a fa) (hb : SE X W b fb) : SE X W (.BinOp a op b pos) (fBin sem fa fb) := ⟨fun pins s σ H Q I t => wpAny_BinOp (bin_of h ha hb I t)⟩
theorem se_cmpS {op : CmpOp} (h : BinS X W (compareOp op) sem) (ha : SE X W a fa) (hb : SE X W b fb) (hm : behindInMarks op b = false) : SE X W (.Compare a [op] [b] pos) (fBin sem fa fb) := ⟨fun pins s σ H Q I t => wpAny_Compare1 (bin_of h ha hb I t) hm⟩
theorem se_unS {op : UnaryOp} (h : UnS X W (unaryOp op) sem1) (ha : SE X W a fa) : SE X W (.UnaryOp op a pos) (fUn sem1 fa) := ⟨fun pins s σ H Q I t => by
  obtain ⟨w, sg, st, rfl, rm, rs, hp⟩ := t
  refine PyProof.Rows.UnaryOp_ (thn (ha.run pins s σ w.h (MPost X W σ sg Q fun x st1 => sem1 x st1) I ⟨w, sg, st, rfl, rm, rs, hp.bindc fun m1 x v st1 e1 r1 q1 hp1 => ⟨m1, x, st1, rfl, r1, rs.mono e1, q1, hp1⟩⟩) fun u s1 hh => ?_)
  obtain ⟨v, H1, I1, rv, m1, x, st1, rfl, r1, rs1, q1, hp1⟩ := hh
  exact h pins s1 σ m1 st1 x v u Q I1 rv r1 q1 hp1⟩
theorem post_bool {w : Hw} {σ : St} {Q : Bool → Hp → Prop} {r : Res D} (hp : Post X.K X.mg W.w w σ RB Q (r.bind fun x st1 => match x with
      | .bl b => .ok b st1
      | _ => .bad)) : Post X.K X.mg W.w w σ (RD X.K X.mg) (fun v H3 => ∃ k, v = .bl k ∧ Q k H3) r := by
  cases r with
  | ok d st1 =>
    intro m' v e r q'
    cases d with
    | bl b => cases q'; exact ⟨b, rfl, hp m' b e r rfl⟩
    | _ => exact False.elim hp
  | exc c o st1 => exact hp
  | bad => exact hp
theorem sb_cmpS {op : CmpOp} (h : BinS X W (compareOp op) sem) (ha : SE X W a fa) (hb : SE X W b fb) (hm : behindInMarks op b = false) : SB X W (.Compare a [op] [b] pos) (tOfE (fBin sem fa fb)) := by
  refine ⟨fun pins s σ H Q I t => ?_⟩
  obtain ⟨w, sg, st, rfl, rm, rs, hp⟩ := t
  have hp2 := post_bool hp
  refine wpAny_isTrue_Compare1 (wpAny_mono (bin_of h ha hb I ⟨w, sg, st, rfl, rm, rs, hp2⟩) (fun v s1 q => wpAny_mono q (fun u s2 q => wpAny_mono q (fun c s3 q => ?_) fun _ _ z => z) fun _ _ z => z) fun _ _ z => z) hm
  obtain ⟨v, H3, I3, r3, k, e, q3⟩ := q
  subst e
  cases (show c = Value.bool k from r3)
  exact wpAny_truthy_bool ⟨H3, I3, q3⟩
/-! own operators -/
theorem inst_of {pins : List (Addr × Obj)} {s : Shared} {σ : St} {m : Hw} {st : Sto} {x : D} {v : V} {l : List D} (I : Inv X pins σ m.h s) (hc : X.mg (cName c) = some (.ref C)) (rm : Rel X.K X.mg m st) (q : Rep X.K X.mg m.r m.g x v) (e : insOf c x st = some l) :
    ∃ a ox od, v = .ref a ∧ PySem.W.InstAt s.heap a ox C od ∧ ox.data = .plain := by
  obtain ⟨a, dx, fs, h0, h1, h2, h3⟩ := ins_of rm q e hc
  obtain ⟨mA, O, _⟩ := ins_get I.hok h1
  obtain ⟨od, J, _⟩ := O.look
  exact ⟨a, _, od, h0, J, rfl⟩
/-- x op y by the class's own def -/
def dOwnI (c : Nat) (F : FF) (n : Nat) (base : D → D → Sto → Res D) : D → D → Sto → Res D := fun x y st => match insOf c x st, insOf c y st with
  | some _, some _ => cF F n [] [x, y] st
  | _, _ => base x y st
/-- x op i, i an int -/
def dOwnN (c : Nat) (F : FF) (n : Nat) (base : D → D → Sto → Res D) : D → D → Sto → Res D := fun x y st => match insOf c x st, y with
  | some _, .int _ => cF F n [] [x, y] st
  | _, _ => base x y st
def uOwn (c : Nat) (F : FF) (n : Nat) (base : D → Sto → Res D) : D → Sto → Res D := fun x st => match insOf c x st with
  | some _ => cF F n [] [x] st
  | _ => base x st
theorem dBad_ok : BinS X W f (fun _ _ _ => .bad) := fun _ _ _ _ _ _ _ _ _ _ _ _ _ _ _ _ _ _ hp => hp.elim
theorem uBad_ok {f : Value → Sem Value} : UnS X W f (fun _ _ => .bad) := fun _ _ _ _ _ _ _ _ _ _ _ _ _ hp => hp.elim
theorem BinS.ownI {op : Operator} (h : DefOk X.prog X.w X.K X.mg X.base k g ps [] F) (hr : Room k X.A) (tk : Takes X W.w) (hc : X.mg (cName c) = some (.ref C)) (hme : Meth X.K C (PySem.dunder op.info.2) g) (sf : PySem.W.selfFirst X.K C = true) (hb : BinS X W (binaryOp op) base) :
    BinS X W (binaryOp op) (dOwnI c F ps.length base) := by
  intro pins s σ m st x y xv yv v u Q I rx ry rm qx qy hp
  unfold dOwnI at hp
  split at hp
  · rename_i l1 l2 e1 e2
    obtain ⟨a, ox, od, rfl, J, _⟩ := inst_of I hc rm qx e1
    obtain ⟨a2, ox2, od2, rfl, J2, _⟩ := inst_of I hc rm qy e2
    obtain rfl : v = Value.ref a := rx
    obtain rfl : u = Value.ref a2 := ry
    obtain ⟨mm, hF⟩ := I.fr
    obtain ⟨⟨fd, h1, h2, _⟩, h3⟩ := h
    obtain ⟨ds, dv, bb⟩ := h2 0 (Nat.zero_le _)
    refine PySem.W.binop_K hF I.ok.mod.kin J J2.type sf hme.at_ hme.fn (wpAny_mono (run_meth (us := [.ref a2]) (vs := [.ref a2]) h1 hr tk bb ⟨dv, fun _ _ => .nil⟩ qx I (.cons rfl .nil) (Ext.refl m) rm (.one qy) hp) (fun w' s' z => ?_) fun _ _ z => z)
    obtain ⟨z', H', I', rz, qz⟩ := z
    exact SlX.cmpback rz ⟨z', H', I', rz, qz⟩
  · exact hb pins s σ m st x y xv yv v u Q I rx ry rm qx qy hp
/-- what the class must be for an int at the right -/
structure OpN (K : PySem.W.Frag) (C : Addr) (nm : String) : Prop where
  r : ∃ rc, PySem.W.findIn K (.ref C) (dunderR nm) = some rc ∧ (rc = none ∨ ∃ g : Addr, rc = some (.ref g))
  i : ∃ fo, PySem.W.findIn K (.type "int") (PySem.dunder nm) = some fo
  j : ∃ ro, PySem.W.findIn K (.type "int") (dunderR nm) = some ro
  s : PySem.W.subIn K (.type "int") (.ref C) = some false
theorem BinS.ownN {op : Operator} (h : DefOk X.prog X.w X.K X.mg X.base k g ps [] F) (hr : Room k X.A) (tk : Takes X W.w) (hc : X.mg (cName c) = some (.ref C)) (hme : Meth X.K C (PySem.dunder op.info.2) g) (sf : PySem.W.selfFirst X.K C = true) (hn : OpN X.K C op.info.2) (hb : BinS X W (binaryOp op) base) :
    BinS X W (binaryOp op) (dOwnN c F ps.length base) := by
  intro pins s σ m st x y xv yv v u Q I rx ry rm qx qy hp
  unfold dOwnN at hp
  split at hp
  · rename_i l1 i e1
    obtain ⟨a, ox, od, rfl, J, _⟩ := inst_of I hc rm qx e1
    cases qy with
    | int i =>
    obtain rfl : v = Value.ref a := rx
    obtain ⟨t, rfl⟩ := (show ∃ t, u = Value.int i t from ry)
    obtain ⟨mm, hF⟩ := I.fr
    obtain ⟨⟨fd, h1, h2, _⟩, h3⟩ := h
    obtain ⟨ds, dv, bb⟩ := h2 0 (Nat.zero_le _)
    obtain ⟨rc, n1, n2⟩ := hn.r
    obtain ⟨fo, n3⟩ := hn.i
    obtain ⟨ro, n4⟩ := hn.j
    refine PySem.W.ksp_binT hF I.ok.mod.kin J rfl sf hme.at_ hme.fn n1 n2 n3 n4 hn.s (wpAny_mono (run_meth (us := [.int i t]) (vs := [.int i]) h1 hr tk bb ⟨dv, fun _ _ => .nil⟩ qx I (.cons ⟨t, rfl⟩ .nil) (Ext.refl m) rm (.one (.int i)) hp) (fun w' s' z => ?_) fun _ _ z => z)
    obtain ⟨z', H', I', rz, qz⟩ := z
    exact SlX.cmpback rz ⟨z', H', I', rz, qz⟩
  · exact hb pins s σ m st x _ xv yv v u Q I rx ry rm qx qy hp
theorem UnS.neg (h : DefOk X.prog X.w X.K X.mg X.base k g ps [] F) (hr : Room k X.A) (tk : Takes X W.w) (hc : X.mg (cName c) = some (.ref C)) (hme : Meth X.K C "__neg__" g) (hb : UnS X W (unaryOp .USub) base1) : UnS X W (unaryOp .USub) (uOwn c F ps.length base1) := by
  intro pins s σ m st x xv v Q I rx rm qx hp
  unfold uOwn at hp
  split at hp
  · rename_i l1 e1
    obtain ⟨a, ox, od, rfl, J, _⟩ := inst_of I hc rm qx e1
    obtain rfl : v = Value.ref a := rx
    obtain ⟨mm, hF⟩ := I.fr
    obtain ⟨⟨fd, h1, h2, _⟩, h3⟩ := h
    obtain ⟨ds, dv, bb⟩ := h2 0 (Nat.zero_le _)
    exact PySem.W.ksp_neg hF I.ok.mod.kin J hme.at_ hme.fn (run_meth (us := []) (vs := []) h1 hr tk bb ⟨dv, fun _ _ => .nil⟩ qx I .nil (Ext.refl m) rm .nil hp)
  · exact hb pins s σ m st x xv v Q I rx rm qx hp
theorem UnS.inv (h : DefOk X.prog X.w X.K X.mg X.base k g ps [] F) (hr : Room k X.A) (tk : Takes X W.w) (hc : X.mg (cName c) = some (.ref C)) (hme : Meth X.K C "__invert__" g) (hb : UnS X W (unaryOp .Invert) base1) : UnS X W (unaryOp .Invert) (uOwn c F ps.length base1) := by
  intro pins s σ m st x xv v Q I rx rm qx hp
  unfold uOwn at hp
  split at hp
  · rename_i l1 e1
    obtain ⟨a, ox, od, rfl, J, _⟩ := inst_of I hc rm qx e1
    obtain rfl : v = Value.ref a := rx
    obtain ⟨mm, hF⟩ := I.fr
    obtain ⟨⟨fd, h1, h2, _⟩, h3⟩ := h
    obtain ⟨ds, dv, bb⟩ := h2 0 (Nat.zero_le _)
    exact PySem.W.ksp_inv hF I.ok.mod.kin J hme.at_ hme.fn (run_meth (us := []) (vs := []) h1 hr tk bb ⟨dv, fun _ _ => .nil⟩ qx I .nil (Ext.refl m) rm .nil hp)
  · exact hb pins s σ m st x xv v Q I rx rm qx hp
end
end Sh
/-! Part L: calls with keywords. -/
namespace Sh
open PySem L2 He
/-- positional values, defaults and keywords' values, put into the parameters' order -/
def pick {α : Type} (arr : List (Nat × Nat)) (us its ws : List α) : List α := arr.filterMap fun p => match p.1 with
  | 0 => us[p.2]?
  | 1 => its[p.2]?
  | _ => ws[p.2]?
theorem vals_get : ∀ {vs : List V} {us : List Value} (i : Nat), Vals vs us → (vs[i]? = none ∧ us[i]? = none) ∨ ∃ v u, vs[i]? = some v ∧ us[i]? = some u ∧ RelV v u
  | _, _, i, .nil => .inl ⟨by simp, by simp⟩
  | _, _, 0, .cons h _ => .inr ⟨_, _, rfl, rfl, h⟩
  | _, _, i + 1, .cons _ h => by simpa using vals_get i h
theorem pick_vals {vs ds zs : List V} {us its ws : List Value} (h1 : Vals vs us) (h2 : Vals ds its) (h3 : Vals zs ws) : ∀ arr : List (Nat × Nat), Vals (pick arr vs ds zs) (pick arr us its ws)
  | [] => .nil
  | p :: arr => by
    have ih := pick_vals h1 h2 h3 arr
    unfold pick at ih ⊢
    rw [List.filterMap_cons, List.filterMap_cons]
    obtain ⟨a, i⟩ := p
    match a with
    | 0 =>
      dsimp only
      rcases vals_get i h1 with ⟨e1, e2⟩ | ⟨v, u, e1, e2, r⟩
      · rw [e1, e2]; exact ih
      · rw [e1, e2]; exact .cons r ih
    | 1 =>
      dsimp only
      rcases vals_get i h2 with ⟨e1, e2⟩ | ⟨v, u, e1, e2, r⟩
      · rw [e1, e2]; exact ih
      · rw [e1, e2]; exact .cons r ih
    | _ + 2 =>
      dsimp only
      rcases vals_get i h3 with ⟨e1, e2⟩ | ⟨v, u, e1, e2, r⟩
      · rw [e1, e2]; exact ih
      · rw [e1, e2]; exact .cons r ih
theorem reps_get {K : PySem.W.Frag} {mg : Str → Option Value} {r : List Addr} {G : Hp} : ∀ {ds : List D} {vs : List V} (i : Nat), Reps K mg r G ds vs → (ds[i]? = none ∧ vs[i]? = none) ∨ ∃ d v, ds[i]? = some d ∧ vs[i]? = some v ∧ Rep K mg r G d v
  | [], _, i, h => by cases h; exact .inl ⟨by simp, by simp⟩
  | d :: l, _, 0, h => by cases h with | cons h1 h2 => exact .inr ⟨_, _, rfl, rfl, h1⟩
  | d :: l, _, i + 1, h => by cases h with | cons h1 h2 => simpa using reps_get i h2
theorem pick_reps {K : PySem.W.Frag} {mg : Str → Option Value} {r : List Addr} {G : Hp} {vs ds zs : List D} {us its ws : List V} (h1 : Reps K mg r G vs us) (h2 : Reps K mg r G ds its) (h3 : Reps K mg r G zs ws) : ∀ arr : List (Nat × Nat), Reps K mg r G (pick arr vs ds zs) (pick arr us its ws)
  | [] => .nil
  | p :: arr => by
    have ih := pick_reps h1 h2 h3 arr
    unfold pick at ih ⊢
    rw [List.filterMap_cons, List.filterMap_cons]
    obtain ⟨a, i⟩ := p
    match a with
    | 0 =>
      dsimp only
      rcases reps_get i h1 with ⟨e1, e2⟩ | ⟨v, u, e1, e2, r⟩
      · rw [e1, e2]; exact ih
      · rw [e1, e2]; exact .cons r ih
    | 1 =>
      dsimp only
      rcases reps_get i h2 with ⟨e1, e2⟩ | ⟨v, u, e1, e2, r⟩
      · rw [e1, e2]; exact ih
      · rw [e1, e2]; exact .cons r ih
    | _ + 2 =>
      dsimp only
      rcases reps_get i h3 with ⟨e1, e2⟩ | ⟨v, u, e1, e2, r⟩
      · rw [e1, e2]; exact ih
      · rw [e1, e2]; exact .cons r ih
structure KB (K : PySem.W.Frag) (fd : FuncData) (ps : List Str) (n : Nat) (ks : List Str) (arr : List (Nat × Nat)) (its : List Value) : Prop where
  to : ∀ (s : Shared) (us ws : List Value), K.In s.heap → us.length = n → ws.length = ks.length → BindsTo s fd ⟨us, ks.zip ws⟩ (ps.zip (pick arr us its ws))
/-- a def called with n positional values and the keywords ks -/
def DefKw (P : Program) (w : World) (K : PySem.W.Frag) (mg : Str → Option Value) (base : Heap) (k : Nat) (f : Addr) (ps : List Str) (dvs : List V) (F : FF) (n : Nat) (ks : List Str) (arr : List (Nat × Nat)) : Prop :=
  ∃ fd its, FnOk P w K mg base (L2.CX P w) k f fd ps (spF K mg ps.length F) ∧ Vals dvs its ∧ KB K fd ps n ks arr its ∧ PySem.W.keepIn K (.ref f) = true
section
variable {P : Program} {w : World} {K : PySem.W.Frag} {mg : Str → Option Value} {base : Heap} {x qual : Str} {params : Arguments} {body : List Stmt} {scope : Scope} {f : Addr} {ps ks : List Str} {k n : Nat} {arr : List (Nat × Nat)} {dvs : List V} {F : FF}
theorem DefOk.kw (h : DefOk P w K mg base k f ps [] F) (FD : ∃ fd, FunD K x qual params body scope [] [] f fd)
    (hb : ∀ (kV doc pm : Value) (an : Option Addr) (cdv ct : Value) (us ws : List Value), us.length = n → ws.length = ks.length → bindArgs (PySem.W.fnOf x qual params body scope .none kV doc pm an cdv ct) ⟨us, ks.zip ws⟩ = pure (ps.zip (pick arr us [] ws))) :
    DefKw P w K mg base k f ps [] F n ks arr := by
  obtain ⟨⟨fd, h1, _, oc, od, osl, lk⟩, h3⟩ := h
  obtain ⟨fd2, FD⟩ := FD
  obtain ⟨oc2, od2, dV, kV, doc, pm, an, cdv, ct, osl2, e, lk2, _, hD, _⟩ := FD.ex
  rw [lk] at lk2
  cases Option.some.inj lk2
  refine ⟨_, [], h1, .nil, ⟨fun s us ws X l1 l2 => ?_⟩, h3⟩
  rcases hD with ⟨_, rfl⟩ | ⟨z, _⟩
  · subst e
    exact .of_eq (hb kV doc pm an cdv ct us ws l1 l2)
  · exact absurd rfl z
theorem DefOk.kwD (h : DefOk P w K mg base k f ps dvs F) (FD : ∃ fd, FunD K x qual params body scope dvs [] f fd) (hd : dvs ≠ [])
    (hb : ∀ (T : Addr) (kV doc pm : Value) (an : Option Addr) (cdv ct : Value) (us its ws : List Value), us.length = n → its.length = dvs.length → ws.length = ks.length →
      ∃ k, bindArgs (PySem.W.fnOf x qual params body scope (.ref T) kV doc pm an cdv ct) ⟨us, ks.zip ws⟩ = seqItems? (.ref T) >>= k ∧ k (some its.toArray) = pure (ps.zip (pick arr us its ws))) :
    DefKw P w K mg base k f ps dvs F n ks arr := by
  obtain ⟨⟨fd, h1, _, oc, od, osl, lk⟩, h3⟩ := h
  obtain ⟨fd2, FD⟩ := FD
  obtain ⟨oc2, od2, dV, kV, doc, pm, an, cdv, ct, osl2, e, lk2, _, hD, _⟩ := FD.ex
  rw [lk] at lk2
  cases Option.some.inj lk2
  rcases hD with ⟨z, _⟩ | ⟨_, T, o, its, m, rfl, lT, oT, rT⟩
  · exact absurd z hd
  · refine ⟨_, its, h1, rT, ⟨fun s us ws X l1 l2 => ?_⟩, h3⟩
    subst e
    obtain ⟨k, e1, e2⟩ := hb T kV doc pm an cdv ct us its ws l1 rT.length.symm l2
    refine BindsTo.of_looks fun M => ?_
    rw [e1]
    exact looks_items X lT oT (.of_pure e2)
end
def cK (F : FF) (n np nk : Nat) (arr : List (Nat × Nat)) (dds : List D) (l z : List D) (st : Sto) : Res D :=
  if l.length = np ∧ z.length = nk ∧ (pick arr l dds z).length = n then F (pick arr l dds z) st else .bad
@[simp] def fCallK (sem : List D → List D → Sto → Res D) (g gk : AF) : EF := fun sg st => (g sg st).bind fun l st1 => (gk sg st1).bind fun z st2 => sem l z st2
def SK (X : Cx) (W : We) (kws : List Keyword) (g : AF) : Prop := PK X kws (TOf X.K X.mg W (RDs X.K X.mg) g)
section
variable {X : Cx} {W : We} {e o : Expr} {es : List Expr} {kws : List Keyword} {fo fe : EF} {g gk : AF} {pos p apos kpos : Pos} {x m : Str} {k np : Nat} {fa C : Addr} {ps ks : List Str} {dvs : List V} {dds : List D} {F : FF} {arr : List (Nat × Nat)} {nm : Option Str}
theorem sk_nil : SK X W [] aNil := ⟨fun pos pins s σ H Q I ⟨m, sg, st, e, rm, rs, hp⟩ => pk_nil.run pos pins s σ H Q I (by subst e; exact hp.okc rm .nil)⟩
theorem sk_cons (ha : SE X W e fe) (hr : SK X W kws gk) : SK X W (⟨nm, e, kpos⟩ :: kws) (aCons fe gk) :=
  ⟨fun pos pins s σ H Q I ⟨m, sg, st, e, rm, rs, hp⟩ => (pk_cons ha hr).run pos pins s σ H Q I ⟨m, sg, st, e, rm, rs, hp.bindc fun m1 x v st1 e1 r1 q1 hp1 => ⟨m1, sg, st1, rfl, r1, rs.mono e1, hp1.bindc fun m2 l vs st2 e2 r2 q2 hp2 => hp2.okc r2 (.cons (q1.mono e2) q2)⟩⟩⟩
theorem run_kw {σ : St} {Q : VK} {pins : List (Addr × Obj)} {us ws : List Value} {s2 : Shared} {m2 : Hw} {l z : List D} {vs zs : List V} {st2 : Sto} (h : DefKw X.prog X.w X.K X.mg X.base k fa ps dvs F np ks arr) (hd : ∀ r G, Reps X.K X.mg r G dds dvs) (hr : Room k X.A) (tk : Takes X W.w)
    (I2 : Inv X pins σ m2.h s2) (rv : Vals vs us) (rz : Vals zs ws) (r2 : Rel X.K X.mg m2 st2) (q2 : Reps X.K X.mg m2.r m2.g l vs) (qz : Reps X.K X.mg m2.r m2.g z zs) (hp2 : Post X.K X.mg W.w m2 σ (RD X.K X.mg) Q (cK F ps.length np ks.length arr dds l z st2)) :
    wpAny (model X.prog X.w) X.A (call (.ref fa) us (ks.zip ws)) (EP X pins σ Q) X.xe s2 := by
  obtain ⟨fd, its, hF, hv, hb, _⟩ := h
  unfold cK at hp2
  split at hp2
  · rename_i hl
    obtain ⟨l1, l2, l3⟩ := hl
    refine wpAny_call (codeAny_mono (hF.run X.A X.stack s2 m2.h ⟨us, ks.zip ws⟩ (pick arr us its ws) (pick arr vs dvs zs) Q (WE W.w σ) hr I2.env0 (hb.to s2 us ws I2.kIn (by rw [← rv.length, ← q2.length]; exact l1) (by rw [← rz.length, ← qz.length]; exact l2)) (pick_vals rv hv rz arr)
      ⟨m2, _, st2, rfl, r2, pick_reps q2 (hd _ _) qz arr, l3, hp2.conv⟩) fun r s' hq => ?_)
    cases r with
    | error e => exact passAt tk σ pins _ _ e s' I2 hq
    | ok fl =>
      cases fl with
      | ret u => exact I2.after hq
      | next => exact False.elim hq
      | brk => exact False.elim hq
      | cont => exact False.elim hq
  · exact False.elim hp2
theorem se_callK (h : DefKw X.prog X.w X.K X.mg X.base k fa ps dvs F np ks arr) (hd : ∀ r G, Reps X.K X.mg r G dds dvs) (hr : Room k X.A) (tk : Takes X W.w) (hg : Gl X x) (hm : X.mg x = some (.ref fa)) (ha : SA X W (e :: es) g) (hk : SK X W kws gk)
    (hall : (backToKw pos (keywordEach kws X.env)).all (·.1.isSome) = true := by rfl) (hks : (backToKw pos (keywordEach kws X.env)).filterMap (·.1) = ks := by rfl)
    (hdb : (x == ("__debug__" : Str)) = false := by decide) (he : starEach (e :: es) X.env = (false, eval e X.env) :: starEach es X.env := by rfl)
    (hpl : ((backTo pos (starEach (e :: es) X.env)).any (·.1) || (backToKw pos (keywordEach kws X.env)).any (·.1.isNone)) = false := by rfl) :
    SE X W (.Call (.Name x p) (e :: es) kws pos) (fCallK (cK F ps.length np ks.length arr dds) g gk) := by
  refine ⟨fun pins s σ H Q I ht => ?_⟩
  obtain ⟨w, sg, st, rfl, rm, rs, hp⟩ := ht
  have hkp := h
  obtain ⟨_, _, _, _, _, hkp⟩ := hkp
  refine wpAny_Call_Name_kw (ld_glob I hg hm ?_ hdb)
  refine PySem.W.callWith_KW (h₀ := X.base) I.ok.mod.kin hkp hall (thn (ha.run pos pins s σ w.h (fun vs H2 => ∃ m2 l st2, m2.h = H2 ∧ Rel X.K X.mg m2 st2 ∧ SgRep X.K X.mg W.e m2 sg σ ∧ Reps X.K X.mg m2.r m2.g l vs ∧ Post X.K X.mg W.w m2 σ (RD X.K X.mg) Q ((gk sg st2).bind fun z st3 => cK F ps.length np ks.length arr dds l z st3)) I
    ⟨w, sg, st, rfl, rm, rs, hp.bindc fun m2 l vs st2 e2 r2 q2 hp2 => ⟨m2, l, st2, rfl, r2, rs.mono e2, q2, hp2⟩⟩) fun us s1 hz => ?_) hpl he
  obtain ⟨vs, H2, I2, rv, m2, l, st2, rfl, r2, rs2, q2, hp2⟩ := hz
  refine thn (hk.run pos pins s1 σ m2.h (fun zs H3 => ∃ m3 z st3, m3.h = H3 ∧ Ext m2 m3 ∧ Rel X.K X.mg m3 st3 ∧ Reps X.K X.mg m3.r m3.g z zs ∧ Post X.K X.mg W.w m3 σ (RD X.K X.mg) Q (cK F ps.length np ks.length arr dds l z st3)) I2
    ⟨m2, sg, st2, rfl, r2, rs2, hp2.bindc fun m3 z zs st3 e3 r3 q3 hp3 => ⟨m3, z, st3, rfl, e3, r3, q3, hp3⟩⟩) fun ws s2 hz => ?_
  obtain ⟨zs, H3, I3, rz, m3, z, st3, rfl, e3, r3, q3, hp3⟩ := hz
  refine ⟨I3.kIn, ?_⟩
  rw [hks]
  exact run_kw h hd hr tk I3 rv rz r3 (q2.mono e3) q3 hp3
theorem se_callK0 (h : DefKw X.prog X.w X.K X.mg X.base k fa ps dvs F np ks arr) (hd : ∀ r G, Reps X.K X.mg r G dds dvs) (hr : Room k X.A) (tk : Takes X W.w) (hg : Gl X x) (hm : X.mg x = some (.ref fa)) (hk : SK X W kws gk)
    (hall : (backToKw pos (keywordEach kws X.env)).all (·.1.isSome) = true := by rfl) (hks : (backToKw pos (keywordEach kws X.env)).filterMap (·.1) = ks := by rfl)
    (hdb : (x == ("__debug__" : Str)) = false := by decide)
    (hpl : ((backTo pos (starEach [] X.env)).any (·.1) || (backToKw pos (keywordEach kws X.env)).any (·.1.isNone)) = false := by rfl) :
    SE X W (.Call (.Name x p) [] kws pos) (fCallK (cK F ps.length np ks.length arr dds) aNil gk) := by
  refine ⟨fun pins s σ H Q I ht => ?_⟩
  obtain ⟨w, sg, st, rfl, rm, rs, hp⟩ := ht
  have hkp := h
  obtain ⟨_, _, _, _, _, hkp⟩ := hkp
  refine wpAny_Call_Name_kw (ld_glob I hg hm ?_ hdb)
  refine PySem.W.callWith_KW0 (h₀ := X.base) I.ok.mod.kin hkp hall (thn (hk.run pos pins s σ w.h (fun zs H3 => ∃ m3 z st3, m3.h = H3 ∧ Rel X.K X.mg m3 st3 ∧ Reps X.K X.mg m3.r m3.g z zs ∧ Post X.K X.mg W.w m3 σ (RD X.K X.mg) Q (cK F ps.length np ks.length arr dds [] z st3)) I
    ⟨w, sg, st, rfl, rm, rs, Post.bindc (x := gk sg st) hp fun m3 z zs st3 e3 r3 q3 hp3 => ⟨m3, z, st3, rfl, r3, q3, hp3⟩⟩) fun ws s2 hz => ?_) hpl
  obtain ⟨zs, H3, I3, rz, m3, z, st3, rfl, r3, q3, hp3⟩ := hz
  refine ⟨I3.kIn, ?_⟩
  rw [hks]
  exact run_kw (us := []) h hd hr tk I3 .nil rz r3 .nil q3 hp3
/-- o.m(k = v, ..) -/
@[simp] def fMethK (c : Nat) (sem : List D → List D → Sto → Res D) (fo : EF) (gk : AF) : EF := fun sg st => (fo sg st).bind fun x st1 => match insOf c x st1 with
  | some _ => (gk sg st1).bind fun z st2 => sem [x] z st2
  | none => .bad
theorem se_methK {c : Nat} {pl : Sem Bool} (h : DefKw X.prog X.w X.K X.mg X.base k fa ps dvs F np ks arr) (hd : ∀ r G, Reps X.K X.mg r G dds dvs) (hr : Room k X.A) (tk : Takes X W.w) (hc : X.mg (cName c) = some (.ref C)) (cl : Cls X.K C) (hme : Meth X.K C m fa) (hnf : m ∉ cFlds c)
    (ho : SE X W o fo) (hk : SK X W kws gk)
    (hall : (backToKw pos (keywordEach kws X.env)).all (·.1.isSome) = true := by rfl) (hks : (backToKw pos (keywordEach kws X.env)).filterMap (·.1) = ks := by rfl)
    (hpl : ((backTo pos (starEach [] X.env)).any (·.1) || (backToKw pos (keywordEach kws X.env)).any (·.1.isNone)) = false := by rfl)
    (ht : eval (.Call (.Attribute o m apos) [] kws pos) X.env = (do
      let ov ← eval o X.env
      standAt apos.atName
      let (f, first) ← holding [ov] (getMethod ov m pl)
      callWith pos f first (backTo pos (starEach [] X.env)) (backToKw pos (keywordEach kws X.env))) := by rfl) :
    SE X W (.Call (.Attribute o m apos) [] kws pos) (fMethK c (cK F ps.length np ks.length arr dds) fo gk) := by
  refine ⟨fun pins s σ H Q I hq => ?_⟩
  obtain ⟨w, sg, st, rfl, rm, rs, hp⟩ := hq
  refine PySem.W.methodCall_KW (pl := pl) (thn (ho.run pins s σ w.h (MPost X W σ sg Q fun x st1 => match insOf c x st1 with
    | some _ => (gk sg st1).bind fun z st2 => cK F ps.length np ks.length arr dds [x] z st2
    | none => .bad) I ⟨w, sg, st, rfl, rm, rs, hp.bindc fun m1 x v st1 e1 r1 q1 hp1 => ⟨m1, x, st1, rfl, r1, rs.mono e1, q1, hp1⟩⟩) fun u s1 hh => ?_) ht
  obtain ⟨v, H1, I1, rv, m1, x, st1, rfl, r1, rs1, q1, hp1⟩ := hh
  dsimp only at hp1
  split at hp1
  · rename_i l0 hl0
    obtain ⟨a, dx, fs, rfl, h1, h2, h3⟩ := ins_of r1 q1 hl0 hc
    obtain rfl : u = Value.ref a := rv
    refine getmeth_ok I1 h1 cl hme (lookup_none h2 fun z => hnf (List.mem_of_mem_take z)) ?_
    refine PySem.W.callWith_KW0 (first := [.ref a]) (h₀ := X.base) I1.ok.mod.kin hme.kp hall (thn (hk.run pos pins s1 σ m1.h (fun zs H3 => ∃ m3 z st3, m3.h = H3 ∧ Ext m1 m3 ∧ Rel X.K X.mg m3 st3 ∧ Reps X.K X.mg m3.r m3.g z zs ∧ Post X.K X.mg W.w m3 σ (RD X.K X.mg) Q (cK F ps.length np ks.length arr dds [x] z st3)) I1
      ⟨m1, sg, st1, rfl, r1, rs1, Post.bindc (x := gk sg st1) hp1 fun m3 z zs st3 e3 r3 q3 hp3 => ⟨m3, z, st3, rfl, e3, r3, q3, hp3⟩⟩) fun ws s2 hz => ?_) hpl
    obtain ⟨zs, H3, I3, rz, m3, z, st3, rfl, e3, r3, q3, hp3⟩ := hz
    refine ⟨I3.kIn, ?_⟩
    rw [hks]
    exact run_kw (us := [.ref a]) (vs := [.ref a]) h hd hr tk I3 (.cons rfl .nil) rz r3 (.one (q1.mono e3)) q3 hp3
  · exact False.elim hp1
end
/-! facts of classes with own operators -/
theorem takesF {X : Cx} {W : We} : Takes X (WF W).w := fun u s' ⟨a, B, sI, pins, σ, H, cls, d, e, I, nb, up, sky, na, os, ag, w⟩ => w.elim
def bSelf (x : Str) (K : PySem.W.Frag) : Bool := PySem.W.selfFirst K (ga K x)
def bOpN (x : Str) (nm : String) (K : PySem.W.Frag) : Bool := decide (PySem.W.findIn K (.ref (ga K x)) (dunderR nm) = some none) && (PySem.W.findIn K (.type "int") (PySem.dunder nm)).isSome && (PySem.W.findIn K (.type "int") (dunderR nm)).isSome && decide (PySem.W.subIn K (.type "int") (.ref (ga K x)) = some false)
theorem self_ok {K : PySem.W.Frag} {x : Str} (h : bSelf x K = true) : PySem.W.selfFirst K (ga K x) = true := h
theorem opN_ok {K : PySem.W.Frag} {x : Str} {nm : String} (h : bOpN x nm K = true) : OpN K (ga K x) nm := by
  unfold bOpN at h
  simp only [Bool.and_eq_true, decide_eq_true_eq] at h
  obtain ⟨⟨⟨h1, h2⟩, h3⟩, h4⟩ := h
  exact ⟨⟨_, h1, .inl rfl⟩, Option.isSome_iff_exists.mp h2, Option.isSome_iff_exists.mp h3, h4⟩
end Sh
/-! Part M: == and != by an own __eq__, own __call__, methods of lists. -/
namespace Sh
open PySem L2 He
section
variable {X : Cx} {W : We} {a b : Expr} {fa fb : EF} {pos : Pos} {sem base : D → D → Sto → Res D} {k c : Nat} {g C : Addr} {F : FF} {ps : List Str}
theorem looks_ty {M : Model} {h : Heap} {a : Addr} {o : Obj} {t : Value} (e : h.get? a = some o) (hc : o.cls = t) : PySem.W.Looks M h (typeOf (.ref a)) t := fun A Q E s k q => wpAny_typeOf_ref (k _ _ e) (hc ▸ q)
/-- the type of a value that is no instance -/
theorem ty_val {pins : List (Addr × Obj)} {s : Shared} {σ : St} {m : Hw} {st : Sto} {y : D} {v : V} {u : Value} {t : String} (I : Inv X pins σ m.h s) (rm : Rel X.K X.mg m st) (q : Rep X.K X.mg m.r m.g y v) (ru : RelV v u) (e : tyD y st = some t) (hd : t ≠ "dict") :
    PySem.W.Looks (model X.prog X.w) s.heap (typeOf u) (.type t) := by
  unfold tyD at e
  split at e
  · cases q; cases e; cases (show u = Value.none from ru); exact .of_pure rfl
  · cases q; cases e; cases (show u = Value.bool _ from ru); exact .of_pure rfl
  · cases q; cases e; obtain ⟨t, rfl⟩ := (show ∃ t, u = Value.int _ t from ru); exact .of_pure rfl
  · cases q; cases e; obtain ⟨t, rfl⟩ := (show ∃ t, u = Value.str _ t from ru); exact .of_pure rfl
  · cases e
    cases q with
    | tup h1 h2 =>
      obtain rfl : u = Value.ref _ := ru
      obtain ⟨its, _, ⟨o, ho, hc, _⟩, _⟩ := I.tuple (sqT_mono rm.sub h1)
      exact looks_ty ho hc
  · cases e
    cases q with
    | lst h1 h2 =>
      obtain rfl : u = Value.ref _ := ru
      obtain ⟨_, its, n, _, _, ho⟩ := I.lstM (rm.sub _ _ h1)
      exact looks_ty ho rfl
  · cases e; exact absurd rfl hd
  · cases q with
    | loc h1 =>
      split at e
      · rename_i l h2
        cases e
        obtain ⟨vs, h3, _⟩ := rm.obj _ _ _ h1 h2
        obtain rfl : u = Value.ref _ := ru
        obtain ⟨_, its, n, _, _, ho⟩ := I.lstM h3
        exact looks_ty ho rfl
      · cases e; exact absurd rfl hd
      · cases e
  · cases e
/-- the types that an own == meets -/
def eqTys : List String := ["NoneType", "bool", "int", "str", "tuple", "list"]
def okEq (c : Nat) (y : D) (st : Sto) : Bool := (insOf c y st).isSome || (match tyD y st with
  | some t => eqTys.contains t
  | none => false)
def dOwnE (c : Nat) (F : FF) (n : Nat) (base : D → D → Sto → Res D) : D → D → Sto → Res D := fun x y st => match insOf c x st with
  | some _ => if okEq c y st = true then cF F n [] [x, y] st else .bad
  | none => base x y st
theorem looks_eq {pins : List (Addr × Obj)} {s : Shared} {σ : St} {m : Hw} {st : Sto} {y : D} {v : V} {u : Value} (I : Inv X pins σ m.h s) (hc : X.mg (cName c) = some (.ref C)) (nt : ∀ t ∈ eqTys, PySem.W.subIn X.K (.type t) (.ref C) = some false) (rm : Rel X.K X.mg m st) (q : Rep X.K X.mg m.r m.g y v) (ru : RelV v u)
    (e : okEq c y st = true) : ∃ tb, PySem.W.Looks (model X.prog X.w) s.heap (typeOf u) tb ∧ PySem.W.notFirst X.K C tb = true := by
  unfold okEq at e
  rcases Bool.or_eq_true_iff.mp e with e | e
  · obtain ⟨l, hl⟩ := Option.isSome_iff_exists.mp e
    obtain ⟨a, ox, od, rfl, J, _⟩ := inst_of I hc rm q hl
    obtain rfl : u = Value.ref a := ru
    exact ⟨_, J.type, by unfold PySem.W.notFirst; simp⟩
  · split at e
    · rename_i t ht
      have hm : t ∈ eqTys := List.contains_iff_mem.mp e
      refine ⟨_, ty_val I rm q ru ht (fun z => by subst z; simp [eqTys] at hm), ?_⟩
      unfold PySem.W.notFirst
      rw [nt t hm]
      simp
    · cases e
theorem BinS.ownE (h : DefOk X.prog X.w X.K X.mg X.base k g ps [] F) (hr : Room k X.A) (tk : Takes X W.w) (hc : X.mg (cName c) = some (.ref C)) (hme : Meth X.K C "__eq__" g) (nt : ∀ t ∈ eqTys, PySem.W.subIn X.K (.type t) (.ref C) = some false) (hb : BinS X W (compareOp .Eq) base) :
    BinS X W (compareOp .Eq) (dOwnE c F ps.length base) := by
  intro pins s σ m st x y xv yv v u Q I rx ry rm qx qy hp
  unfold dOwnE at hp
  split at hp
  · rename_i l1 e1
    split at hp
    · rename_i ho
      obtain ⟨a, ox, od, rfl, J, _⟩ := inst_of I hc rm qx e1
      obtain rfl : v = Value.ref a := rx
      obtain ⟨tb, L, hn⟩ := looks_eq I hc nt rm qy ry ho
      obtain ⟨mm, hF⟩ := I.fr
      obtain ⟨⟨fd, h1, h2, _⟩, h3⟩ := h
      obtain ⟨ds, dv, bb⟩ := h2 0 (Nat.zero_le _)
      show wpAny _ _ (richCompare .Eq (.ref a) u) _ _ _
      refine PySem.W.cmp_K (op := .Eq) (tb := tb) hr.units0 hF I.ok.mod.kin J L hn hme.at_ hme.fn (wpAny_mono (run_meth (us := [u]) (vs := [yv]) h1 hr tk bb ⟨dv, fun _ _ => .nil⟩ qx I (.cons ry .nil) (Ext.refl m) rm (.one qy) hp) (fun w' s' z => ?_) fun _ _ z => z)
      obtain ⟨z', H', I', rz, qz⟩ := z
      exact SlX.cmpback rz ⟨z', H', I', rz, qz⟩
    · exact False.elim hp
  · exact hb pins s σ m st x y xv yv v u Q I rx ry rm qx qy hp
end
/-! != of a class with its own == only -/
section
open PySem.W PyProof.Rows
variable {prog : Program} {w : World} {A : Around} {E : Value → Shared → Prop} {s : Shared} {K : Frag} {x C L f : Addr} {h₀ : Heap} {m : Str → Option Value} {ox : Obj} {od : Option Obj} {b tb : Value}
theorem ne_body {Q : Fin → Shared → Prop} (hu : A.units < cLine) (X : K.In s.heap) (I : InstAt s.heap x ox C od) (hs : findIn K (.ref C) "__eq__" = some (some (.ref f))) (hf : isFn K (.ref f) = true)
    (h : wpAny (model prog w) A (call (.ref f) [.ref x, b]) (fun v s' => ∃ c, v = .bool c ∧ Q (.done (.ret (.bool (!c)))) s') E s) : wpAny (model prog w) A (Builtin.«object.__ne__» ⟨[.ref x, b], []⟩) Q E s := by
  unfold Builtin.«object.__ne__»
  repeat (first
    | with_reducible refine wpAny_cRoomFor hu ?_
    | (refine wpAny_bind (m := callSpecialIfBound? (.ref x) (Str.ofString "__eq__") [b])
        (ifBound_K X I hs hf (wpAny_mono h (fun r s' hr => by
          obtain ⟨b, rfl, hq⟩ := hr
          repeat (first | exact hq | exact wpAny_pure hq | exact wpAny_truthy_bool hq | (refine wpAny_bind (m := truthy (.bool _)) (wpAny_truthy_bool ?_)) | wp_step)) fun _ _ e => e)))
    | wp_step)
theorem ne_check {M : Model} {Q : Unit → Shared → Prop} (X : K.In s.heap) (I : InstAt s.heap x ox C od) (hso : subIn K (.ref C) (.type "object") = some true) (hq : Q () s) : wpAny M A (checkBuiltinCall "object.__ne__" ⟨[.ref x, b], []⟩) Q E s := by
  have ha := PySem.F.cmpArgs_ne (.ref x) b
  simp only [checkBuiltinCall, PySem.F.cmpKind_ne, PySem.F.cmpSplit_ne]
  refine wpAny_bind ?_
  unfold isInstance
  refine wpAny_bind (I.type.here ((looks_subIn X hso).here ?_))
  cases hsig : Manifest.signature? "object.__ne__" with
  | none => exact wpAny_pure hq
  | some sig =>
    simp only [argsOk, hsig] at ha
    have h2 : Bind.checkArgs "object.__ne__" sig ⟨[.ref x, b], []⟩ = pure () := ha
    show wpAny M A (Bind.checkArgs "object.__ne__" sig ⟨[.ref x, b], []⟩) Q E _
    rw [h2]; exact wpAny_pure hq
theorem ne_viaEq {Q : Value → Shared → Prop} (hu : A.units + 1 < cLine) (F : Fr h₀ L s.heap m) (X₀ : K.In h₀) (I : InstAt s.heap x ox C od) (hb : Looks (model prog w) s.heap (typeOf b) tb) (hn : notFirst K C tb = true)
    (hne : findIn K (.ref C) "__ne__" = some (some (.builtin "object.__ne__"))) (hso : subIn K (.ref C) (.type "object") = some true) (hs : findIn K (.ref C) "__eq__" = some (some (.ref f))) (hf : isFn K (.ref f) = true)
    (h : wpAny (model prog w) A.in1 (call (.ref f) [.ref x, b]) (fun v s' => ∃ c, v = .bool c ∧ Q (.bool (!c)) s') E s) : wpAny (model prog w) A (richCompare .NotEq (.ref x) b) Q E s := by
  have X := X₀.keeps F.keep
  have S := PySem.F.cmp_object.ne
  have one : wpAny (model prog w) A (tryCompare (.ref x) (cmpInfo .NotEq).2.1 b) (fun r s' => ∃ v, r = some v ∧ Q v s') E s := by
    unfold tryCompare
    refine wpAny_bind ?_
    simp only [callSpecialIfBound?, bindSpecialIfBound?]
    refine wpAny_holding (wpAny_bind (wpAny_bind (wpAny_bind (I.type.here ((looks_findIn X hne).here ?_)))))
    simp only [S.bind]
    have fin : ∀ {Q' : Option Value → Shared → Prop}, (∀ v s', (∃ c, v = .bool c ∧ Q (.bool c) s') → Q' (some v) s') → wpAny (model prog w) A (call (.builtin "object.__ne__") ([.ref x] ++ [b]) >>= fun v => pure (some v)) Q' E s := fun {Q'} hq => by
      refine wpAny_bind (wpAny_mono (Q := fun v s' => ∃ c, v = .bool c ∧ Q (.bool c) s') (wpAny_call (codeAny_call_builtin S.plain PySem.F.cmpEntry_ne (ne_check X I hso (ne_body (A := A.in1) hu X I hs hf (wpAny_mono h (fun v s' hv => ?_) fun _ _ e => e))))) (fun v s' z => wpAny_pure (hq v s' z)) fun _ _ e => e)
      obtain ⟨c, rfl, hq'⟩ := hv
      exact ⟨c, rfl, ⟨_, rfl, hq'⟩⟩
    have last : ∀ v s', (∃ c, v = Value.bool c ∧ Q (.bool c) s') → wpAny (model prog w) A (match some v with
        | some .notImplemented | none => pure none
        | some v => pure (some v)) (fun r s' => ∃ v, r = some v ∧ Q v s') E s' := fun v s' ⟨c, e, q⟩ => by
      subst e
      exact wpAny_pure ⟨_, rfl, q⟩
    refine wpAny_bind (wpAny_askSetting (wpAny_ite ?_))
    split
    · exact wpAny_bind (wpAny_pure (wpAny_pure (fin last)))
    · exact wpAny_tryCatch (wpAny_bind (wpAny_pure (wpAny_pure (fin last))))
  unfold richCompare
  simp only [oneThing_ref]
  refine wpAny_holding (wpAny_bind (wpAny_cRoomFor (Nat.lt_of_succ_lt hu) ?_))
  refine wpAny_bind (I.type.here (wpAny_bind (hb.here ?_)))
  split
  · rename_i q
    have e : subIn K tb (.ref C) = some false := by
      rcases Bool.or_eq_true_iff.mp hn with e | e
      · rw [beq_iff_eq.mp e] at q; simp at q
      · exact beq_iff_eq.mp e
    refine wpAny_bind ((looks_subIn X e).here ?_)
    simp only [Bool.false_eq_true, if_false]
    refine wpAny_bind (wpAny_mono one (fun r s' z => ?_) fun _ _ e => e)
    obtain ⟨v, rfl, hq⟩ := z
    exact wpAny_pure hq
  · refine wpAny_bind (wpAny_pure ?_)
    simp only [Bool.false_eq_true, if_false]
    refine wpAny_bind (wpAny_mono one (fun r s' z => ?_) fun _ _ e => e)
    obtain ⟨v, rfl, hq⟩ := z
    exact wpAny_pure hq
end
section
variable {X : Cx} {W : We} {a b e o : Expr} {es : List Expr} {fa fb fo : EF} {ga gk : AF} {pos apos : Pos} {sem base : D → D → Sto → Res D} {k c np : Nat} {g C : Addr} {F : FF} {ps ks : List Str} {dvs : List V} {dds : List D} {arr : List (Nat × Nat)} {kws : List Keyword}
def dNotB (d : D) (st : Sto) : Res D := match d with
  | .bl b => .ok (.bl !b) st
  | _ => .bad
def dOwnNe (c : Nat) (F : FF) (n : Nat) (base : D → D → Sto → Res D) : D → D → Sto → Res D := fun x y st => match insOf c x st with
  | some _ => if okEq c y st = true then (cF F n [] [x, y] st).bind dNotB else .bad
  | none => base x y st
/-- what the class must be for != by its == -/
structure NeC (K : PySem.W.Frag) (C : Addr) : Prop where
  ne : PySem.W.findIn K (.ref C) "__ne__" = some (some (.builtin "object.__ne__"))
  so : PySem.W.subIn K (.ref C) (.type "object") = some true
theorem run_meth1 {σ : St} {Q : VK} {pins : List (Addr × Obj)} {a : Addr} {us : List Value} {s2 : Shared} {m2 : Hw} {l : List D} {vs : List V} {st2 : Sto} {d : D} (h : DefOk X.prog X.w X.K X.mg X.base k g ps [] F) (hr : Room k X.A.in1) (tk : Takes X W.w) (q1 : Rep X.K X.mg m2.r m2.g d (.ref a))
    (I2 : Inv X pins σ m2.h s2) (rv2 : Vals vs us) (r2 : Rel X.K X.mg m2 st2) (q2 : Reps X.K X.mg m2.r m2.g l vs) (hp2 : Post X.K X.mg W.w m2 σ (RD X.K X.mg) Q (cF F ps.length [] (d :: l) st2)) :
    wpAny (model X.prog X.w) X.A.in1 (call (.ref g) (Value.ref a :: us)) (EP X pins σ Q) X.xe s2 := by
  obtain ⟨⟨fd, h1, h2, _⟩, h3⟩ := h
  obtain ⟨ds, dv, bb⟩ := h2 0 (Nat.zero_le _)
  cases dv
  unfold cF at hp2
  split at hp2
  · rename_i hl
    have rr : Vals (V.ref a :: vs) (Value.ref a :: us) := .cons rfl rv2
    have hlen : (Value.ref a :: us).length = ps.length := by
      rw [← rr.length]
      have z := q2.length
      simp at hl ⊢
      omega
    refine wpAny_call (codeAny_mono (h1.run X.A.in1 X.stack s2 m2.h ⟨Value.ref a :: us, []⟩ (Value.ref a :: us) (V.ref a :: vs) Q (WE W.w σ) hr I2.env0.in1 (by simpa using bb s2 (Value.ref a :: us) I2.kIn (by simpa using hlen)) rr
      ⟨m2, _, st2, rfl, r2, by simpa using Reps.cons q1 q2, hl, hp2.conv⟩) fun r s' hq => ?_)
    cases r with
    | error e => exact passAt tk σ pins _ _ e s' I2 hq
    | ok fl =>
      cases fl with
      | ret u => exact I2.after hq
      | next => exact False.elim hq
      | brk => exact False.elim hq
      | cont => exact False.elim hq
  · exact False.elim hp2
theorem BinS.ownNe (h : DefOk X.prog X.w X.K X.mg X.base k g ps [] F) (hr : Room (k + 1) X.A) (tk : Takes X W.w) (hc : X.mg (cName c) = some (.ref C)) (hme : Meth X.K C "__eq__" g) (hn : NeC X.K C) (nt : ∀ t ∈ eqTys, PySem.W.subIn X.K (.type t) (.ref C) = some false) (hb : BinS X W (compareOp .NotEq) base) :
    BinS X W (compareOp .NotEq) (dOwnNe c F ps.length base) := by
  intro pins s σ m st x y xv yv v u Q I rx ry rm qx qy hp
  unfold dOwnNe at hp
  split at hp
  · rename_i l1 e1
    split at hp
    · rename_i ho
      obtain ⟨a, ox, od, rfl, J, _⟩ := inst_of I hc rm qx e1
      obtain rfl : v = Value.ref a := rx
      obtain ⟨tb, L, hnf⟩ := looks_eq I hc nt rm qy ry ho
      obtain ⟨mm, hF⟩ := I.fr
      show wpAny _ _ (richCompare .NotEq (.ref a) u) _ _ _
      have hu : X.A.units + 1 < cLine := by
        have := hr.in1.units0
        exact this
      refine ne_viaEq hu hF I.ok.mod.kin J L hnf hn.ne hn.so hme.at_ hme.fn (wpAny_mono (run_meth1 (us := [u]) (vs := [yv]) (Q := fun w H3 => ∃ b, w = .bl b ∧ Q (.bl !b) H3) h hr.in1 tk qx I (.cons ry .nil) rm (.one qy) (hp.bindc fun m1 d w st1 e1 r1 q1 hp1 => ?_)) (fun w' s' z => ?_) fun _ _ z => z)
      · unfold dNotB at hp1
        split at hp1
        · cases q1
          exact ⟨_, rfl, hp1.okc r1 (.bl _)⟩
        · exact False.elim hp1
      · obtain ⟨z', H', I', rz, b, rfl, qz⟩ := z
        cases (show w' = Value.bool b from rz)
        exact ⟨b, rfl, .bl !b, H', I', rfl, qz⟩
    · exact False.elim hp
  · exact hb pins s σ m st x y xv yv v u Q I rx ry rm qx qy hp
/-! own call -/
theorem callO_kw0 {M : Model} {A : Around} {E : Value → Shared → Prop} {s : Shared} {a : Addr} {pos : Pos} {env : Env} {Q : Value → Shared → Prop} (hall : (backToKw pos (keywordEach kws env)).all (·.1.isSome) = true)
    (hpl : ((backTo pos (starEach [] env)).any (·.1) || (backToKw pos (keywordEach kws env)).any (·.1.isNone)) = false)
    (h : wpAny M A (evalAll ((backToKw pos (keywordEach kws env)).map (·.2))) (fun ks s₁ => (∃ C ox od, PySem.W.InstAt s₁.heap a ox C od ∧ ox.data = .plain) ∧ wpAny M A (call (.ref a) [] (((backToKw pos (keywordEach kws env)).filterMap (·.1)).zip ks)) Q E s₁) E s) :
    wpAny M A (callWith pos (.ref a) [] (backTo pos (starEach [] env)) (backToKw pos (keywordEach kws env))) Q E s := by
  unfold callWith
  have h' : wpAny M A (evalArgs (.ref a) true (backTo pos (starEach [] env)) (backToKw pos (keywordEach kws env))) (fun z s₁ => (∃ C ox od, PySem.W.InstAt s₁.heap a ox C od ∧ ox.data = .plain) ∧ wpAny M A (call (.ref a) z.pos z.kw) Q E s₁) E s := PyProof.Rows.evalArgs_kw2_nil hall h
  refine wpAny_bind (wpAny_holding (wpAny_mono h' (fun z s₁ h₁ => wpAny_bind (wpAny_standAt ?_)) fun _ _ y => y))
  obtain ⟨⟨C, ox, od, J, hd⟩, h₁⟩ := h₁
  have L := PySem.W.kco_keeper (M := M) J hd
  simp only [hpl]
  refine wpAny_bind (L.here ?_)
  have tail : ∀ {t : Sem Value}, wpAny M A t Q E s₁ → wpAny M A (t >>= fun r => holding [r] point >>= fun _ => pure r) Q E s₁ :=
    fun ht => wpAny_bind (wpAny_mono ht (fun r s₂ hr => wpAny_bind (wpAny_holding (wpAny_point (wpAny_pure hr)))) fun _ _ y => y)
  exact tail (wpAny_operateT h₁)
theorem run_code {σ : St} {Q : VK} {pins : List (Addr × Obj)} {us ws : List Value} {s2 : Shared} {m2 : Hw} {l z : List D} {vs zs : List V} {st2 : Sto} (h : DefKw X.prog X.w X.K X.mg X.base k g ps dvs F np ks arr) (hd : ∀ r G, Reps X.K X.mg r G dds dvs) (hr : Room k X.A) (tk : Takes X W.w)
    (I2 : Inv X pins σ m2.h s2) (rv : Vals vs us) (rz : Vals zs ws) (r2 : Rel X.K X.mg m2 st2) (q2 : Reps X.K X.mg m2.r m2.g l vs) (qz : Reps X.K X.mg m2.r m2.g z zs) (hp2 : Post X.K X.mg W.w m2 σ (RD X.K X.mg) Q (cK F ps.length np ks.length arr dds l z st2)) :
    codeAny (model X.prog X.w) X.A (.call (.ref g) ⟨us, ks.zip ws⟩) (fun r s' => match r with | .ok (.ret v) => EP X pins σ Q v s' | .ok _ => False | .error e => X.xe e s') s2 := by
  obtain ⟨fd, its, hF, hv, hb, _⟩ := h
  unfold cK at hp2
  split at hp2
  · rename_i hl
    obtain ⟨l1, l2, l3⟩ := hl
    refine codeAny_mono (hF.run X.A X.stack s2 m2.h ⟨us, ks.zip ws⟩ (pick arr us its ws) (pick arr vs dvs zs) Q (WE W.w σ) hr I2.env0 (hb.to s2 us ws I2.kIn (by rw [← rv.length, ← q2.length]; exact l1) (by rw [← rz.length, ← qz.length]; exact l2)) (pick_vals rv hv rz arr)
      ⟨m2, _, st2, rfl, r2, pick_reps q2 (hd _ _) qz arr, l3, hp2.conv⟩) fun r s' hq => ?_
    cases r with
    | error e => exact passAt tk σ pins _ _ e s' I2 hq
    | ok fl =>
      cases fl with
      | ret u => exact I2.after hq
      | next => exact False.elim hq
      | brk => exact False.elim hq
      | cont => exact False.elim hq
  · exact False.elim hp2
/-- o(k = v, ..) of an instance -/
def isObj : D → Bool
  | .ins _ _ => true
  | .loc _ => true
  | _ => false
theorem isObj_ref {r : List Addr} {G : Hp} {x : D} {v : V} (h : isObj x = true) (q : Rep X.K X.mg r G x v) : ∃ a, v = .ref a := by
  cases x <;> first | (exact Bool.noConfusion h) | skip
  · cases q; exact ⟨_, rfl⟩
  · cases q; exact ⟨_, rfl⟩
@[simp] def fOcallK (c : Nat) (sem : List D → List D → Sto → Res D) (fo : EF) (gk : AF) : EF := fun sg st => (fo sg st).bind fun x st1 => if isObj x = true then ((gk sg st1).bind fun z st2 => match insOf c x st2 with
  | some _ => sem [x] z st2
  | none => .bad) else .bad
theorem se_ocallK {c : Nat} (h : DefKw X.prog X.w X.K X.mg X.base k g ps dvs F np ks arr) (hd : ∀ r G, Reps X.K X.mg r G dds dvs) (hr : Room k X.A) (tk : Takes X W.w) (hc : X.mg (cName c) = some (.ref C)) (co : StX.CallO X.K C g) (ho : SE X W o fo) (hk : SK X W kws gk)
    (hall : (backToKw pos (keywordEach kws X.env)).all (·.1.isSome) = true := by rfl) (hks : (backToKw pos (keywordEach kws X.env)).filterMap (·.1) = ks := by rfl)
    (hpl : ((backTo pos (starEach [] X.env)).any (·.1) || (backToKw pos (keywordEach kws X.env)).any (·.1.isNone)) = false := by rfl)
    (ht : eval (.Call o [] kws pos) X.env = (do callWith pos (← eval o X.env) [] (backTo pos (starEach [] X.env)) (backToKw pos (keywordEach kws X.env))) := by rfl) :
    SE X W (.Call o [] kws pos) (fOcallK c (cK F ps.length np ks.length arr dds) fo gk) := by
  refine ⟨fun pins s σ H Q I hq => ?_⟩
  obtain ⟨w, sg, st, rfl, rm, rs, hp⟩ := hq
  rw [ht]
  refine wpAny_bind (thn (ho.run pins s σ w.h (MPost X W σ sg Q fun x st1 => if isObj x = true then ((gk sg st1).bind fun z st2 => match insOf c x st2 with
    | some _ => cK F ps.length np ks.length arr dds [x] z st2
    | none => .bad) else .bad) I ⟨w, sg, st, rfl, rm, rs, hp.bindc fun m1 x v st1 e1 r1 q1 hp1 => ⟨m1, x, st1, rfl, r1, rs.mono e1, q1, hp1⟩⟩) fun u s1 hh => ?_)
  obtain ⟨v, H1, I1, rv, m1, x, st1, rfl, r1, rs1, q1, hp1⟩ := hh
  dsimp only at hp1
  split at hp1
  · rename_i hob
    obtain ⟨a, rfl⟩ := isObj_ref hob q1
    obtain rfl : u = Value.ref a := rv
    refine callO_kw0 hall hpl (thn (hk.run pos pins s1 σ m1.h (fun zs H3 => ∃ m3 z st3, m3.h = H3 ∧ Ext m1 m3 ∧ Rel X.K X.mg m3 st3 ∧ Reps X.K X.mg m3.r m3.g z zs ∧ Post X.K X.mg W.w m3 σ (RD X.K X.mg) Q (match insOf c x st3 with
      | some _ => cK F ps.length np ks.length arr dds [x] z st3
      | none => .bad)) I1
      ⟨m1, sg, st1, rfl, r1, rs1, Post.bindc (x := gk sg st1) hp1 fun m3 z zs st3 e3 r3 q3 hp3 => ⟨m3, z, st3, rfl, e3, r3, q3, hp3⟩⟩) fun ws s2 hz => ?_)
    obtain ⟨zs, H3, I3, rz, m3, z, st3, rfl, e3, r3, q3, hp3⟩ := hz
    split at hp3
    · rename_i l hl
      obtain ⟨a', ox, od, ea, J, hd'⟩ := inst_of I3 hc r3 (q1.mono e3) hl
      cases ea
      refine ⟨⟨C, ox, od, J, hd'⟩, ?_⟩
      rw [hks]
      exact wpAny_call (PySem.W.kco_code I3.kIn J hd' co.at_ co.fn co.fi (run_code (us := [.ref a]) (vs := [.ref a]) h hd hr tk I3 (.cons rfl .nil) rz r3 (.one (q1.mono e3)) q3 hp3))
    · exact False.elim hp3
  · exact False.elim hp1
/-- o(e, ..) of an instance -/
@[simp] def fOcall (c : Nat) (sem : List D → Sto → Res D) (fo : EF) (ga : AF) : EF := fun sg st => (fo sg st).bind fun x st1 => if isObj x = true then ((ga sg st1).bind fun l st2 => match insOf c x st2 with
  | some _ => sem (x :: l) st2
  | none => .bad) else .bad
theorem cF_cK {l : List D} {st : Sto} {n : Nat} : cF F n [] l st = if l.length = n then F l st else .bad := by unfold cF; simp
theorem run_meth0 {σ : St} {Q : VK} {pins : List (Addr × Obj)} {us : List Value} {s2 : Shared} {m2 : Hw} {l : List D} {vs : List V} {st2 : Sto} (h : DefOk X.prog X.w X.K X.mg X.base k g ps [] F) (hr : Room k X.A) (tk : Takes X W.w)
    (I2 : Inv X pins σ m2.h s2) (rv2 : Vals vs us) (r2 : Rel X.K X.mg m2 st2) (q2 : Reps X.K X.mg m2.r m2.g l vs) (hp2 : Post X.K X.mg W.w m2 σ (RD X.K X.mg) Q (cF F ps.length [] l st2)) :
    codeAny (model X.prog X.w) X.A (.call (.ref g) ⟨us, []⟩) (fun r s' => match r with | .ok (.ret v) => EP X pins σ Q v s' | .ok _ => False | .error e => X.xe e s') s2 := by
  obtain ⟨⟨fd, h1, h2, _⟩, h3⟩ := h
  obtain ⟨ds, dv, bb⟩ := h2 0 (Nat.zero_le _)
  cases dv
  rw [cF_cK] at hp2
  split at hp2
  · rename_i hl
    have hlen : us.length = ps.length := by rw [← rv2.length, ← q2.length]; exact hl
    refine codeAny_mono (h1.run X.A X.stack s2 m2.h ⟨us, []⟩ us vs Q (WE W.w σ) hr I2.env0 (by simpa using bb s2 us I2.kIn (by simpa using hlen)) rv2 ⟨m2, l, st2, rfl, r2, q2, hl, hp2.conv⟩) fun r s' hq => ?_
    cases r with
    | error e => exact passAt tk σ pins _ _ e s' I2 hq
    | ok fl =>
      cases fl with
      | ret u => exact I2.after hq
      | next => exact False.elim hq
      | brk => exact False.elim hq
      | cont => exact False.elim hq
  · exact False.elim hp2
theorem se_ocall {c : Nat} (h : DefOk X.prog X.w X.K X.mg X.base k g ps [] F) (hr : Room k X.A) (tk : Takes X W.w) (hc : X.mg (cName c) = some (.ref C)) (co : StX.CallO X.K C g) (ho : SE X W o fo) (ha : SA X W (e :: es) ga)
    (ht : eval (.Call o (e :: es) [] pos) X.env = (do callWith pos (← eval o X.env) [] (backTo pos (starEach (e :: es) X.env)) (backToKw pos (keywordEach [] X.env))) := by rfl)
    (he : starEach (e :: es) X.env = (false, eval e X.env) :: starEach es X.env := by rfl) (hpl : (backTo pos (starEach es X.env)).any (·.1) = false := by rfl) :
    SE X W (.Call o (e :: es) [] pos) (fOcall c (cF F ps.length []) fo ga) := by
  refine ⟨fun pins s σ H Q I hq => ?_⟩
  obtain ⟨w, sg, st, rfl, rm, rs, hp⟩ := hq
  refine PyProof.Rows.Call_ (thn (ho.run pins s σ w.h (MPost X W σ sg Q fun x st1 => if isObj x = true then ((ga sg st1).bind fun z st2 => match insOf c x st2 with
    | some _ => cF F ps.length [] (x :: z) st2
    | none => .bad) else .bad) I ⟨w, sg, st, rfl, rm, rs, hp.bindc fun m1 x v st1 e1 r1 q1 hp1 => ⟨m1, x, st1, rfl, r1, rs.mono e1, q1, hp1⟩⟩) fun u s1 hh => ?_) ht
  obtain ⟨v, H1, I1, rv, m1, x, st1, rfl, r1, rs1, q1, hp1⟩ := hh
  dsimp only at hp1
  split at hp1
  · rename_i hob
    obtain ⟨a, rfl⟩ := isObj_ref hob q1
    obtain rfl : u = Value.ref a := rv
    refine StX.callO_with (thn (ha.run pos pins s1 σ m1.h (fun zs H3 => ∃ m3 z st3, m3.h = H3 ∧ Ext m1 m3 ∧ Rel X.K X.mg m3 st3 ∧ Reps X.K X.mg m3.r m3.g z zs ∧ Post X.K X.mg W.w m3 σ (RD X.K X.mg) Q (match insOf c x st3 with
      | some _ => cF F ps.length [] (x :: z) st3
      | none => .bad)) I1
      ⟨m1, sg, st1, rfl, r1, rs1, Post.bindc (x := ga sg st1) hp1 fun m3 z zs st3 e3 r3 q3 hp3 => ⟨m3, z, st3, rfl, e3, r3, q3, hp3⟩⟩) fun ws s2 hz => ?_) he hpl
    obtain ⟨zs, H3, I3, rz, m3, z, st3, rfl, e3, r3, q3, hp3⟩ := hz
    split at hp3
    · rename_i l hl
      obtain ⟨a', ox, od, ea, J, hd'⟩ := inst_of I3 hc r3 (q1.mono e3) hl
      cases ea
      exact ⟨⟨C, ox, od, J, hd'⟩, wpAny_call (PySem.W.kco_code I3.kIn J hd' co.at_ co.fn co.fi (run_meth0 (us := .ref a :: ws) (vs := .ref a :: zs) h hr tk I3 (.cons rfl rz) r3 (.cons (q1.mono e3) q3) hp3))⟩
    · exact False.elim hp3
  · exact False.elim hp1
/-! methods of built-in values -/
theorem tyV_of {m : Hw} {st : Sto} {d : D} {v : V} {t : String} (rm : Rel X.K X.mg m st) (h : Rep X.K X.mg m.r m.g d v) (e : tyD d st = some t) (ht : t = "list" ∨ t = "str" ∨ t = "int" ∨ t = "dict") : tyV X.K t v m.h := by
  unfold tyD at e
  split at e
  · cases e; simp at ht
  · cases e; simp at ht
  · cases h; cases e; exact rfl
  · cases h; cases e; exact rfl
  · cases e; simp at ht
  · cases e
    cases h with
    | lst h1 h2 => exact .inl ⟨rfl, _, SqL.of (rm.sub _ _ h1)⟩
  · cases e
    cases h with
    | edict h1 => exact .inr (.inr (.inl ⟨rfl, .inl ⟨_, rm.sub _ _ h1⟩⟩))
  · cases h with
    | loc h1 =>
      split at e
      · rename_i l h2
        cases e
        obtain ⟨vs, h3, _⟩ := rm.obj _ _ _ h1 h2
        exact .inl ⟨rfl, _, SqL.of h3⟩
      · rename_i l h2
        cases e
        obtain ⟨vs, h3, _⟩ := rm.obj _ _ _ h1 h2
        exact .inr (.inr (.inl ⟨rfl, .inl ⟨_, h3⟩⟩))
      · cases e
  · cases e
def FitsM (X : Cx) (W : We) (r : V → List V → Hp → VK → Prop) (sem : D → List D → Sto → Res D) : Prop :=
  ∀ (m : Hw) (st : Sto) (σ : St) (x : D) (v : V) (l : List D) (vs : List V) (Q : VK), Rel X.K X.mg m st → Rep X.K X.mg m.r m.g x v → Reps X.K X.mg m.r m.g l vs → Post X.K X.mg W.w m σ (RD X.K X.mg) Q (sem x l st) → r v vs m.h Q
@[simp] def fBM (T : String) (sem : D → List D → Sto → Res D) (fo : EF) (ga : AF) : EF := fun sg st => (fo sg st).bind fun x st1 => if tyD x st1 = some T then ((ga sg st1).bind fun l st2 => sem x l st2) else .bad
variable {T id : String} {r : V → List V → Hp → VK → Prop} {name : Str} {semM : D → List D → Sto → Res D}
theorem se_bm (pa : PlainAttrs T) (slot : Slot T name id) (hty : typeOf (.builtin id) = pure (.type "method_descriptor")) (hm : MtR X id r) (fits : FitsM X W r semM) (hT : T = "list" ∨ T = "str" ∨ T = "int" ∨ T = "dict") (ho : SE X W o fo) (ha : SA X W (e :: es) ga)
    (hbase : attributeBase o name X.env (eval o X.env) = eval o X.env := by rfl)
    (hfew : ((backTo pos (starEach (e :: es) X.env)).all (fun x => !x.1) && (backToKw pos (keywordEach [] X.env)).all (fun x => x.1.isSome)
      && decide ((e :: es).length + ([] : List Keyword).length + (if ([] : List Keyword).isEmpty then 0 else 1) < 30)) = true := by rfl)
    (hline : (apos.endLine == pos.line) = true := by rfl) (hs : starEach (e :: es) X.env = (false, eval e X.env) :: starEach es X.env := by rfl) (hplain : (backTo pos (starEach es X.env)).any (·.1) = false := by rfl) :
    SE X W (.Call (.Attribute o name apos) (e :: es) [] pos) (fBM T semM fo ga) :=
  pe_weak (pe_bm pa slot hty hm ho ha hbase hfew hline hs hplain) fun σ H Q ⟨m, sg, st, e, rm, rs, hp⟩ => ⟨m, sg, st, e, rm, rs, hp.bindc fun m1 x v st1 e1 r1 q1 hp1 => by
    split at hp1
    · rename_i ht
      exact ⟨tyV_of r1 q1 ht hT, m1, sg, st1, rfl, r1, rs.mono e1, hp1.bindc fun m2 l vs st2 e2 r2 q2 hp2 => fits m2 st2 σ x v l vs Q r2 (q1.mono e2) q2 hp2⟩
    · exact False.elim hp1⟩
theorem se_bm0 (pa : PlainAttrs T) (slot : Slot T name id) (hty : typeOf (.builtin id) = pure (.type "method_descriptor")) (hm : MtR X id r) (fits : FitsM X W r semM) (hT : T = "list" ∨ T = "str" ∨ T = "int" ∨ T = "dict") (ho : SE X W o fo)
    (hbase : attributeBase o name X.env (eval o X.env) = eval o X.env := by rfl) (hline : (apos.endLine == pos.line) = true := by rfl) :
    SE X W (.Call (.Attribute o name apos) [] [] pos) (fBM T semM fo aNil) :=
  pe_weak (pe_bm0 pa slot hty hm ho hbase hline) fun σ H Q ⟨m, sg, st, e, rm, rs, hp⟩ => ⟨m, sg, st, e, rm, rs, hp.bindc fun m1 x v st1 e1 r1 q1 hp1 => by
    split at hp1
    · rename_i ht
      exact ⟨tyV_of r1 q1 ht hT, fits m1 st1 σ x v [] [] Q r1 q1 .nil hp1⟩
    · exact False.elim hp1⟩
/-- xs.append(e) -/
def mApp (x : D) (l : List D) (st : Sto) : Res D := match x, l with
  | .loc n, [d] => match st[n]? with
    | some (.lst xs) => if xs.length < 16777216 then .ok .non (st.set n (.lst (xs ++ [d]))) else .bad
    | _ => .bad
  | _, _ => .bad
theorem fits_app : FitsM X W rAppend mApp := by
  intro m st σ x v l vs Q rm q ql hp
  unfold mApp at hp
  split at hp
  · split at hp
    · rename_i xs hx
      split at hp
      · rename_i hl
        cases q with
        | loc h1 =>
          obtain ⟨ys, h2, h3⟩ := rm.obj _ _ _ h1 hx
          cases ql with
          | cons k1 k2 =>
            cases k2
            refine ⟨_, ys, _, rfl, rfl, h2, by rw [← h3.length]; exact hl, ?_⟩
            exact hp (m.put _ (.lst (ys ++ [_]))) .non (Ext.put (List.mem_of_getElem? h1)) (rm.put h1 ⟨_, upd_same, h3.append (.one k1)⟩) .non
      · exact False.elim hp
    · exact False.elim hp
  · exact False.elim hp
end
/-! the facts -/
def bNt (x : Str) (K : PySem.W.Frag) : Bool := eqTys.all fun t => decide (PySem.W.subIn K (.type t) (.ref (ga K x)) = some false)
theorem nt_ok {K : PySem.W.Frag} {x : Str} (h : bNt x K = true) : ∀ t ∈ eqTys, PySem.W.subIn K (.type t) (.ref (ga K x)) = some false := fun t ht => of_decide_eq_true (List.all_eq_true.mp h t ht)
def bNe (x : Str) (K : PySem.W.Frag) : Bool := decide (PySem.W.findIn K (.ref (ga K x)) "__ne__" = some (some (.builtin "object.__ne__"))) && decide (PySem.W.subIn K (.ref (ga K x)) (.type "object") = some true)
theorem ne_ok {K : PySem.W.Frag} {x : Str} (h : bNe x K = true) : NeC K (ga K x) := by
  obtain ⟨h1, h2⟩ := Bool.and_eq_true_iff.mp h
  exact ⟨of_decide_eq_true h1, of_decide_eq_true h2⟩
def bCallO (x : Str) (K : PySem.W.Frag) : Bool := decide (PySem.W.findIn K (.ref (ga K x)) "__call__" = some (some (.ref (ma K (ga K x) "__call__")))) && (PySem.W.isFn K (.ref (ma K (ga K x) "__call__")) && PySem.W.fnIn K (ma K (ga K x) "__call__"))
theorem callO_ok {K : PySem.W.Frag} {x : Str} (h : bCallO x K = true) : StX.CallO K (ga K x) (ma K (ga K x) "__call__") := by
  obtain ⟨h1, h⟩ := Bool.and_eq_true_iff.mp h
  obtain ⟨h2, h3⟩ := Bool.and_eq_true_iff.mp h
  exact ⟨of_decide_eq_true h1, h2, h3⟩
end Sh
/-! Part N: chains of comparisons. -/
namespace Sh
open PySem L2 He
section
variable {X : Cx} {W : We} {a b c : Expr} {fa fb fc : EF} {pos : Pos} {s1 s2 : D → D → Sto → Res D}
/-- a op1 b op2 c -/
@[simp] def fChn (s1 s2 : D → D → Sto → Res D) (fa fb fc : EF) : EF := fun sg st => (fa sg st).bind fun x st1 => (fb sg st1).bind fun y st2 => (s1 x y st2).bind fun z st3 => match z with
  | .bl k => if k = true then ((fc sg st3).bind fun w st4 => s2 y w st4) else .ok (.bl false) st3
  | _ => .bad
theorem chn_of {r r' : R2} (hs : Fits2 X W r s1) (hs' : Fits2 X W r' s2) {σ : St} {H : Hp} {Q : VK} (h : TOf X.K X.mg W (RD X.K X.mg) (fChn s1 s2 fa fb fc) σ H Q) : tChain r r' (TOf X.K X.mg W (RD X.K X.mg) fa) (TOf X.K X.mg W (RD X.K X.mg) fb) (TOf X.K X.mg W (RD X.K X.mg) fc) σ H Q := by
  obtain ⟨m, sg, st, rfl, rm, rs, hp⟩ := h
  refine ⟨m, sg, st, rfl, rm, rs, hp.bindc fun m1 x v st1 e1 r1 q1 hp1 => ⟨m1, sg, st1, rfl, r1, rs.mono e1, hp1.bindc fun m2 y w st2 e2 r2 q2 hp2 => hs m2 st2 σ x y v w _ r2 (q1.mono e2) q2 (hp2.bindc fun m3 z v3 st3 e3 r3 q3 hp3 => ?_)⟩⟩
  split at hp3
  · rename_i k
    cases q3
    refine ⟨k, rfl, ?_⟩
    cases k with
    | true =>
      rw [if_pos rfl] at hp3 ⊢
      exact ⟨m3, sg, st3, rfl, r3, rs.mono (e1.trans (e2.trans e3)), hp3.bindc fun m4 w' v4 st4 e4 r4 q4 hp4 => hs' m4 st4 σ y w' w v4 Q r4 (q2.mono (e3.trans e4)) q4 hp4⟩
    | false =>
      rw [if_neg Bool.false_ne_true] at hp3 ⊢
      exact hp3.okc r3 (.bl _)
  · exact False.elim hp3
theorem se_chn {op op' : CmpOp} {r r' : R2} (ho : OpR X (compareOp op) r) (hs : Fits2 X W r s1) (ho' : OpR X (compareOp op') r') (hs' : Fits2 X W r' s2) (ha : SE X W a fa) (hb : SE X W b fb) (hc : SE X W c fc)
    (hm : lastMarks [op, op'] [b, c] = false := by with_unfolding_all rfl) : SE X W (.Compare a [op, op'] [b, c] pos) (fChn s1 s2 fa fb fc) :=
  pe_weak (pe_chain ho ho' ha hb hc hm) fun _ _ _ h => chn_of hs hs' h
theorem sb_chn {op op' : CmpOp} {r r' : R2} (ho : OpR X (compareOp op) r) (hs : Fits2 X W r s1) (ho' : OpR X (compareOp op') r') (hs' : Fits2 X W r' s2) (ha : SE X W a fa) (hb : SE X W b fb) (hc : SE X W c fc)
    (hm : lastMarks [op, op'] [b, c] = false := by with_unfolding_all rfl) : SB X W (.Compare a [op, op'] [b, c] pos) (tOfE (fChn s1 s2 fa fb fc)) :=
  pt_weak (pt_chain ho ho' ha hb hc hm) fun σ H Q ⟨m, sg, st, e, rm, rs, hp⟩ => chn_of hs hs' ⟨m, sg, st, e, rm, rs, post_bool hp⟩
end
end Sh
/-! Part O: errors with a field: their __init__, raise. -/
namespace Sh
open PySem L2 He
/-- what the written part must say of such an error's class -/
def bOex (x : Str) (K : PySem.W.Frag) : Bool := (match K.lookup (ga K x) with
  | some ⟨.type "type", _, .cls cd, sl⟩ => (match cd.mro, sl.toList with
    | .ref C' :: bm, [_, _, _, _, some (.builtin n), _] => C' == ga K x && n == "ValueError.__new__" && !cd.hasDel && cd.hasDict && PySem.HandSPX.refsVE bm
    | _, _ => false)
  | _ => false) && decide (PySem.W.findIn K (.ref (ga K x)) "__setattr__" = some (some (.builtin "object.__setattr__"))) && decide (PySem.W.subIn K (.ref (ga K x)) (.type "BaseException") = some true) && decide (PySem.W.typeIn K (.ref (ga K x)) = some (.type "type")) && PySem.W.keepIn K (.ref (ga K x)) &&
  decide (PySem.W.findIn K (.ref (ga K x)) "__init__" = some (some (.ref (ma K (ga K x) "__init__")))) && decide (PySem.W.typeIn K (.ref (ma K (ga K x) "__init__")) = some (.type "function"))
structure OexK (K : PySem.W.Frag) (C fI : Addr) : Prop where
  c : OexC K C
  i : PySem.W.findIn K (.ref C) "__init__" = some (some (.ref fI))
  t : PySem.W.typeIn K (.ref fI) = some (.type "function")
theorem oex_ok {K : PySem.W.Frag} {x : Str} (h : bOex x K = true) : OexK K (ga K x) (ma K (ga K x) "__init__") := by
  unfold bOex at h
  simp only [Bool.and_eq_true, decide_eq_true_eq] at h
  obtain ⟨⟨⟨⟨⟨⟨q, h1⟩, h2⟩, h3⟩, h4⟩, h5⟩, h6⟩ := h
  refine ⟨⟨?_, h1, h2, h3, h4⟩, h5, h6⟩
  split at q
  · rename_i dd cd sl ho
    split at q
    · rename_i C' bm k0 k1 k2 k3 n k5 hm hs
      simp only [Bool.and_eq_true, beq_iff_eq, Bool.not_eq_true'] at q
      obtain ⟨⟨⟨⟨e1, rfl⟩, hdel⟩, hdd⟩, ht⟩ := q
      obtain ⟨nm, bs, mro, ns, qn, hd, sn, sub, ab, col, del⟩ := cd
      dsimp only at hm hdel hdd
      subst hm hdel hdd
      have hsl : sl = #[k0, k1, k2, k3, some (.builtin "ValueError.__new__"), k5] := by
        obtain ⟨l⟩ := sl
        simp only at hs
        rw [hs]
      subst hsl
      subst e1
      exact ⟨nm, qn, ns, bs, bm, sn, sub, ab, col, dd, k0, k1, k2, k3, k5, ho, ht⟩
    · cases q
  · cases q
/-- self.f = f, in an error that is being made -/
def spX (K : PySem.W.Frag) (f : Str) : Sp := fun vs H Q _ => ∃ (e C : Addr) (y : V), vs = [.ref e, y] ∧ OexC K C ∧ PySem.W.findIn K (.ref C) f = some none ∧ H e = some (exo e C none) ∧
  ∀ dx, H dx = none → dx ≠ e → Q .non (upd (upd H dx (exd dx [(f, y)])) e (exo e C (some dx)))
/-- an error's class with one field: its __init__ -/
structure XDef (P : Program) (w : World) (K : PySem.W.Frag) (mg : Str → Option Value) (base : Heap) (k : Nat) (C : Addr) (f : Str) : Prop where
  ex : ∃ fI fd ps, OexK K C fI ∧ FnOk P w K mg base (L2.CX P w) k fI fd ps (spX K f) ∧ Binds K fd ps [] ∧ ps.length = 2
  nf : PySem.W.findIn K (.ref C) f = some none
section
variable {P : Program} {w : World} {K : PySem.W.Frag} {mg : Str → Option Value} {base : Heap} {x qual y : Str} {st : Stmt} {C f : Addr} {k : Nat}
theorem xdef_ok {fl : Str} (O : OexK K C f) (nf : PySem.W.findIn K (.ref C) fl = some none) (F : ∃ fd, FunD K x qual (defArgs st) (defBody st) (defScope st) [] [] f fd) (S : FnScope ["self", y] ["self", y] (defScope st))
    (hb : ∀ (kV doc pm : Value) (an : Option Addr) (cdv ct : Value) (us : List Value), us.length = (["self", y] : List Str).length → bindArgs (PySem.W.fnOf x qual (defArgs st) (defBody st) (defScope st) .none kV doc pm an cdv ct) ⟨us, []⟩ = pure ((["self", y] : List Str).zip us))
    (hbody : ∀ (cdv : Value) (A : Around) (outer : List Env) (s : Shared) (H : Hp) (E : XK), PSs (cxOf (L2.CX P w) P w K mg base ["self", y] qual (defScope st) f cdv A outer s H E) (defBody st) (tOst K fl (tVar 0) (tVar 1))) :
    XDef P w K mg base 1 C fl := by
  obtain ⟨fd, F⟩ := F
  refine ⟨⟨f, fd, ["self", y], O, F.ok (k := 0) S (fun vs H Q E h => ?_) (fun cdv A outer s H vs Q E hr h => ⟨_, hbody cdv A outer s H E, ?_⟩), FunD.bindsN F hb, rfl⟩, nf⟩
  · obtain ⟨e, C, y, rfl, _⟩ := h
    rfl
  · obtain ⟨e, C', z, rfl, T, n, he, hq⟩ := h
    exact ⟨_, rfl, _, rfl, e, C', rfl, T, n, .inl ⟨he, fun dx h1 h2 => hq dx h1 h2⟩⟩
end
section
variable {X : Cx} {W : We} {e : Expr} {es : List Expr} {g : AF} {pos pos2 p : Pos} {x f : Str} {k ci : Nat} {C : Addr}
def rXc (ci : Nat) (g : AF) : SF := fun sg st => match g sg st with
  | .ok l st1 => match l with
    | [d] => if pu d = true then .exc ci (some d) sg st1 else .bad
    | _ => .bad
  | .exc c o st1 => .exc c o sg st1
  | .bad => .bad
theorem ss_raiseF (h : XDef X.prog X.w X.K X.mg X.base k C f) (hx : xName ci = x) (hf : xFld ci = f) (hc : X.calm = true) (tk : Takes X W.w) (hr : Room (k + 1) X.A) (hg : Gl X x) (hm : X.mg x = some (.ref C)) (ha : SA X W (e :: es) g)
    (hdb : (x == ("__debug__" : Str)) = false := by decide) (he : starEach (e :: es) X.env = (false, eval e X.env) :: starEach es X.env := by rfl) (hpl : (backTo pos (starEach es X.env)).any (·.1) = false := by rfl) :
    SS X W (.Raise (some (.Call (.Name x p) (e :: es) [] pos)) none pos2) (rXc ci g) := by
  obtain ⟨⟨fI, fd, ps, O, hF, hb, hl⟩, nf⟩ := h
  refine ps_weak (ps_raise hc tk (pmk_oex O.c O.i O.t hF hr hb .nil (fun pins σ H s er s' I q => ?_) hg hm ha hdb he hpl)) fun D σ H ⟨m, sg, st, em, rm, rs, hp⟩ => ?_
  · obtain ⟨a, B, H', cls, d, _, _, _, _, _, _, _, hz⟩ := q
    exact hz.elim
  · subst em
    refine ⟨m, sg, st, rfl, rm, rs, ?_⟩
    unfold rXc at hp
    cases hg' : g sg st with
    | bad => rw [hg'] at hp; exact hp
    | exc c o st1 => rw [hg'] at hp; exact fun m' cls dx e' r' x' => hp m' σ cls dx e' r' (rs.mono e') x'
    | ok l st1 =>
      rw [hg'] at hp
      dsimp only at hp
      intro m' vs e' r' q'
      split at hp
      · rename_i d
        split at hp
        · rename_i hpu
          cases q' with
          | cons q1 q2 =>
            cases q2
            rename_i v
            refine ⟨by simp, fun a ha => ⟨a, C, v, rfl, O.c, nf, upd_same, fun dx hdx hne => ⟨rfl, dx, [(f, v)], upd_same, ?_, ?_, ?_⟩⟩⟩
            · rw [upd_ne hne, upd_same]
            · rw [upd_ne hne] at hdx; exact hdx
            · have hdx' : m'.h dx = none := by rw [upd_ne hne] at hdx; exact hdx
              have eh : upd (del (upd (upd (upd m'.h a (exo a C none)) dx (exd dx [(f, v)])) a (exo a C (some dx))) a) dx (.xd [(f, v)]) = upd m'.h dx (.xd [(f, v)]) := by
                funext b
                by_cases h1 : b = dx
                · subst h1; rw [upd_same, upd_same]
                · rw [upd_ne h1, upd_ne h1]
                  by_cases h2 : b = a
                  · subst h2; rw [del_same]; exact ha.symm
                  · rw [del_ne h2, upd_ne h2, upd_ne h1, upd_ne h2]
              rw [eh]
              refine hp (m'.lay dx (.xd [(f, v)])) σ (.ref C) (some dx) (e'.trans (Ext.lay r' hdx')) (r'.lay hdx') (rs.mono (e'.trans (Ext.lay r' hdx'))) ?_
              exact ⟨C, by rw [hx]; exact hm, rfl, dx, v, rfl, by rw [hf]; exact upd_same, q1.mono (Ext.lay r' hdx')⟩
        · exact False.elim hp
      · exact False.elim hp
end
end Sh
/-! Part P: several named except clauses. -/
namespace Sh
open PySem L2 PyProof.Rows
/-- a clause: its class, its name's slot, what its suite does -/
abbrev Clz := Value × Nat × (Addr → Value → Option Addr → TS)
def endsOut (i : Nat) (D : Ends) : Ends := { nx := fun σ' H' => D.nx (σ'.set i none) H', rt := D.rt, bk := fun σ' H' => D.bk (σ'.set i none) H', ct := fun σ' H' => D.ct (σ'.set i none) H' }
/-- what named clauses wish of the body's error, from the first on -/
def wNamed (K : PySem.W.Frag) (Wo : WX) (D : Ends) : List Clz → WX
  | [] => Wo
  | (c, i, ts) :: r => fun cls d σ H => ∃ b, PySem.W.exmOne K cls c = some b ∧ ((b = true → ∀ a, H a = none → ts a cls d (endsOut i D) (σ.set i (some (.ref a))) H) ∧ (b = false → wNamed K Wo D r cls d σ H))
inductive Named (X : Cx) : List ExceptHandler → List Clz → Prop
  | nil : Named X [] []
  | cons {x n : Str} {c : Value} {i : Nat} {ts : Addr → Value → Option Addr → TS} {b₀ : Stmt} {su : List Stmt} {np po : Pos} {hds : List ExceptHandler} {l : List Clz} (hi : X.N[i]? = some n) (hl : X.env.kindOf n = some .local) (hc : Names X x c)
      (hsu : ∀ (a : Addr) (oe : Obj) (cls : Value) (d : Option Addr) (pn : List (Addr × Obj)), Zc cls d oe → (∃ vs, oe.data = .fields vs) → PSs (X.suite a ((a, oe) :: pn)) (b₀ :: su) (ts a cls d)) (r : Named X hds l) :
      Named X (.ExceptHandler (some (.Name x np)) (some n) (b₀ :: su) po :: hds) ((c, i, ts) :: l)
section
variable {X : Cx} {body : List Stmt} {h₀ : ExceptHandler} {hds : List ExceptHandler} {l : List Clz} {pos : Pos} {tb : WX → TS} {Wo : WX}
theorem ps_tryNamed (hs : X.stack = X.env :: X.outer) (hf : X.env.frame = some X.env.locals) (hN : X.N.Nodup) (tk : Takes X Wo)
    (hb : ∀ (W : WX) (pn : List (Addr × Obj)) (xe : Value → Shared → Prop), Takes (X.tr pn xe) W → PassesOwn (model X.prog X.w) X.A X.env xe → PSs (X.tr pn xe) body (tb W)) (hh : Named X (h₀ :: hds) l) :
    PS X (.Try body (h₀ :: hds) [] [] pos) (fun D σ H => tb (wNamed X.K Wo D l) D σ H) := by
  refine ⟨fun pins s σ H D I h => ?_⟩
  have ok := I.ok
  have hfr : X.A.frames = some (X.env :: X.outer) := by rw [ok.frames, hs]
  let catch_ : Value → Shared → Prop := fun e s₁ => wpAny (model X.prog X.w) X.A (noteFrame e X.env) (fun _ s₂ => wpAny (model X.prog X.w) X.A (setFlight e none) (fun _ s₃ => wpAny (model X.prog X.w) X.A (handleBy e X.env (h₀ :: hds)) (SP X pins D) X.xe s₃) X.xe s₂) X.xe s₁
  refine wpAny_Try_except (wpAny_mono ((hb (wNamed X.K Wo D l) (X.pn ++ pins) catch_ (fun u s' xx => ?_) PassesOwn.looking).run [] s σ H D (I.toTry _) h) (fun f s1 hsp => ?_) (fun e s1 he => he))
  · obtain ⟨a, B, sI, pins', σ', H', cls, d, rfl, J', nb, up, sky, na, os, ag, w⟩ := xx
    have J : Inv X pins σ' H' sI := J'.ofTry ok
    have sky' : Sky B (X.env :: X.outer) a (Zc cls d) X.env.locals s'.heap := by rw [← hs]; exact sky
    show wpAny (model X.prog X.w) X.A (noteFrame (.ref a) X.env) _ _ _
    refine Sky.land Zc.steady hfr hf sky' fun h3 fl3 up3 => ?_
    have J3 : Inv X pins σ' H' { s' with heap := h3 } := J.landed nb fl3.1 (up.trans up3) os ag
    obtain ⟨oe3, vs3, he3, hz3, hd3⟩ := fl3.there
    have nfr : a ∉ frs (X.env :: X.outer) := fun hm => by
      obtain ⟨_, o', e', hnf⟩ := fl3.2.2.1.mem hm
      rw [he3] at e'; cases e'
      exact hnf _ hd3
    have nL : a ≠ X.env.locals := fun z => nfr (List.mem_filterMap.mpr ⟨X.env, List.mem_cons_self, by rw [hf, z]⟩)
    have nF : a ∉ X.fs := fun hm => by
      obtain ⟨e, he, q⟩ := List.mem_filterMap.mp hm
      exact nfr (List.mem_filterMap.mpr ⟨e, List.mem_cons_of_mem _ he, q⟩)
    have S3 := J3.suite he3 hd3 na nL nF
    have go : ∀ {hds' : List ExceptHandler} {l' : List Clz}, Named X hds' l' → wNamed X.K Wo D l' cls d σ' H' → wpAny (model X.prog X.w) X.A (handleBy (.ref a) X.env hds') (SP X pins D) X.xe { s' with heap := h3 } := by
      intro hds' l' hk
      induction hk with
      | nil =>
        intro w
        refine wpAny_handleBy_nil ?_
        obtain ⟨k1, k2, k3, oe, vs, T, oT, ts', he, hz, hd, h1, hr⟩ := id fl3
        unfold PySem.passOn
        refine wpAny_bind (wpAny_field he hd h1 ?_)
        rw [if_neg (show ¬ ((Value.ref T == Value.none) = true) from by simp)]
        have fin : wpAny (model X.prog X.w) X.A (setFlight (.ref a) X.env.frame) (fun _ s4 => wpAny (model X.prog X.w) X.A (throw (.ref a) : Sem Flow) (SP X pins D) X.xe s4) X.xe { s' with heap := h3 } := by
          rw [hf]
          exact HandSPX.setFlight_upZ fl3 fun h4 hh4 up4 => wpAny_throw (tk _ _ ⟨a, B, sI, pins, σ', H', cls, d, rfl, J, nb, (up.trans up3).trans up4, .inr (.inr (by rw [hs]; exact hh4)), na, os, ag, w⟩)
        first
          | exact wpAny_bind (wpAny_pure (wpAny_bind fin))
          | exact wpAny_bind fin
      | @cons x n c i ts b₀ su np po hds2 l2 hi hl hc hsu r ih =>
        intro w
        obtain ⟨b, hb1, hyes, hno⟩ := w
        have hloc : Loc X.env.scope n := .inl hl
        refine wpAny_handleBy_cons (codeAny_handlers_test ?_) (by intro q; cases q)
        have LT : PySem.W.Looks (model X.prog X.w) h3 (typeOf (.ref a)) cls := fun A Q E s k q => wpAny_typeOf_ref (k _ _ he3) (by rw [hz3.1]; exact q)
        have LM := PySem.W.exm_one (M := model X.prog X.w) (J3.kIn) LT hb1
        have test : ∀ {Q : Value → Shared → Prop} {E : Value → Shared → Prop}, Q c { s' with heap := h3 } → wpAny (model X.prog X.w) (X.A.mark (some (.ref a))) (eval (.Name x np) X.env) Q E { s' with heap := h3 } := fun {Q E} q => by
          obtain ⟨hg, hdbg, hm | ⟨hm, hv, hnn⟩⟩ := hc
          · exact ld_glob (X := X.suite a ((a, oe3) :: (X.pn ++ pins))) S3 hg hm q hdbg
          · exact ld_blt (X := X.suite a ((a, oe3) :: (X.pn ++ pins))) S3 hg hm hv q hnn hdbg
        refine test (LM.here ?_)
        cases b with
        | true =>
          refine codeAny_handlers_suite_as (HandSPX.lands_againZ fl3 fun h4 fl4 up4 => ?_)
          have J4 : Inv X pins σ' H' { s' with heap := h4 } := J.landed nb fl4.1 ((up.trans up3).trans up4) os ag
          obtain ⟨oe4, vs4, he4, hz4, hd4⟩ := fl4.there
          refine store_ok (X := X.suite a ((a, oe4) :: (X.pn ++ pins))) (v := .ref a) (J4.suite he4 hd4 na nL nF) hN hi hloc rfl (fun s5 S5 => ?_) (.inr hl)
          refine wpAny_mono ((hsu a oe4 cls d (X.pn ++ pins) hz4 ⟨_, hd4⟩).run [] s5 _ H' _ S5 (hyes rfl a na)) (fun f s6 hsp => ?_) (fun _ _ z => False.elim z)
          have end_ : ∀ {σ6 : L2.St} {H6 : Hp} {Q : Shared → Prop}, Inv (X.suite a ((a, oe4) :: (X.pn ++ pins))) [] σ6 H6 s6 → (∀ s7, Inv X pins (σ6.set i none) H6 s7 → Q s7) → wpAny (model X.prog X.w) X.A (do bindName X.env n .none; unbindBehindTheSuite X.env n po) (fun _ s7 => Q s7) X.xe s6 := fun {σ6 H6 Q} S6 hq => gone_ok (S6.unsuite ok) hN hi hl hq
          cases f with
          | next => exact let ⟨σ6, H6, S6, q6⟩ := hsp; end_ S6 fun s7 J7 => ⟨_, _, J7, q6⟩
          | brk => exact let ⟨σ6, H6, S6, q6⟩ := hsp; end_ S6 fun s7 J7 => ⟨_, _, J7, q6⟩
          | cont => exact let ⟨σ6, H6, S6, q6⟩ := hsp; end_ S6 fun s7 J7 => ⟨_, _, J7, q6⟩
          | ret u => exact let ⟨v6, σ6, H6, S6, r6, q6⟩ := hsp; end_ S6 fun s7 J7 => ⟨_, _, _, J7, r6, q6⟩
        | false => exact ih (hno rfl)
    exact go hh w
  · cases f with
    | next => exact let ⟨σ', H', J', q⟩ := hsp; wpAny_execs_nil ⟨σ', H', J'.ofTry ok, q⟩
    | brk => exact let ⟨σ', H', J', q⟩ := hsp; ⟨σ', H', J'.ofTry ok, q⟩
    | cont => exact let ⟨σ', H', J', q⟩ := hsp; ⟨σ', H', J'.ofTry ok, q⟩
    | ret u => exact let ⟨v, σ', H', J', r, q⟩ := hsp; ⟨v, σ', H', J'.ofTry ok, r, q⟩
end
/-! the same over data by value -/
structure Cl where
  hc : Nat → Option Bool
  c0 : Nat
  fl : Bool
  i : Nat
  su : Option D → SF
def pickH : List Cl → Nat → Option D → Sg → Sto → Flw
  | [], c, o, sg, st => .exc c o sg st
  | k :: r, c, o, sg, st => match k.hc c with
    | some true => if c = k.c0 ∧ o.isSome = k.fl then (k.su o (sg.set k.i none) st).unx k.i else .bad
    | some false => pickH r c o sg st
    | none => .bad
def sTryN (g : SF) (l : List Cl) : SF := fun sg st => match g sg st with
  | .exc c o sg1 st1 => pickH l c o sg1 st1
  | r => r
def Cl.z (X : Cx) (k : Cl) (cv : Value) : Clz := (cv, k.i, fun a cls d D σ H => ∃ C o, cls = .ref C ∧ X.mg (xName k.c0) = some (.ref C) ∧ o.isSome = k.fl ∧ (o = none → d = none) ∧ SOf X.K X.mg (WS ⟨k.i, a, cls, d, k.c0, o⟩) (k.su o) D σ H)
/-- the clauses, with their classes -/
inductive ClsOk (X : Cx) : List ExceptHandler → List Cl → List Clz → Prop
  | nil : ClsOk X [] [] []
  | cons {xn n : Str} {cv : Value} {k : Cl} {b₀ : Stmt} {suite : List Stmt} {np pos' : Pos} {hds : List ExceptHandler} {l : List Cl} {z : List Clz} (hi : X.N[k.i]? = some n) (hln : X.env.kindOf n = some .local) (hnm : Names X xn cv)
      (hh : ∀ c b C, k.hc c = some b → X.mg (xName c) = some (.ref C) → PySem.W.exmOne X.K (.ref C) cv = some b)
      (hsu : ∀ (a : Addr) (oe : Obj) (C : Addr) (d : Option Addr) (o : Option D) (pn : List (Addr × Obj)), X.mg (xName k.c0) = some (.ref C) → o.isSome = k.fl → (o = none → d = none) → Zc (.ref C) d oe → (∃ vs, oe.data = .fields vs) → SSs (X.suite a ((a, oe) :: pn)) (WS ⟨k.i, a, .ref C, d, k.c0, o⟩) (b₀ :: suite) (k.su o))
      (r : ClsOk X hds l z) : ClsOk X (.ExceptHandler (some (.Name xn np)) (some n) (b₀ :: suite) pos' :: hds) (k :: l) (k.z X cv :: z)
section
variable {X : Cx} {body : List Stmt} {h₀ : ExceptHandler} {hds : List ExceptHandler} {l : List Cl} {z : List Clz} {pos : Pos} {gs : SF} {w : WX}
theorem ClsOk.named {hds : List ExceptHandler} (h : ClsOk X hds l z) : Named X hds z := by
  induction h with
  | nil => exact .nil
  | cons hi hln hnm hh hsu r ih =>
    exact .cons hi hln hnm (fun a oe cls d pn hz hv => ⟨fun pins s σ H D I ⟨C, o, h1, h2, h4, h5, h3⟩ => by
      subst h1
      exact (hsu a oe C d o pn h2 h4 h5 hz hv).run pins s σ H D I h3⟩) ih
theorem ClsOk.wish {hds : List ExceptHandler} (h : ClsOk X hds l z) {m : Hw} {D : Ends} {c : Nat} {o : Option Sh.D} {sg : Sg} {st : Sto} (hp : PostS X.K X.mg ⟨w, none⟩ m D (pickH l c o sg st)) :
    ∀ m' σ' cls dx, Ext m m' → Rel X.K X.mg m' st → SgRep X.K X.mg none m' sg σ' → XRep X.K X.mg m' c o cls dx → wNamed X.K w D z cls dx σ' m'.h := by
  induction h with
  | nil => exact hp
  | @cons xn n cv k b₀ suite np pos' hds l z hi hln hnm hh hsu r ih =>
    intro m' σ' cls dx e' r' s' x'
    have x2 := x'
    obtain ⟨C, k1, k2, k3⟩ := x'
    subst k2
    unfold pickH at hp
    cases hq : k.hc c with
    | none => rw [hq] at hp; exact False.elim hp
    | some b =>
      rw [hq] at hp
      refine ⟨b, hh c b C hq k1, fun hbt a ha => ?_, fun hbf => ?_⟩
      · subst hbt
        dsimp only at hp
        split at hp
        · rename_i hcc
          obtain ⟨hcc, hfl⟩ := hcc
          subst hcc
          exact ⟨C, o, rfl, k1, hfl, (fun z => by subst z; exact k3), m', sg.set k.i none, st, rfl, r', SgRep.held (y := ⟨k.i, a, .ref C, dx, k.c0, o⟩) s' x2, unx_ok (y := ⟨k.i, a, .ref C, dx, k.c0, o⟩) (PostS.mono hp e')⟩
        · exact False.elim hp
      · subst hbf
        exact ih hp m' σ' (.ref C) dx e' r' s' x2
theorem ss_tryN (hs : X.stack = X.env :: X.outer) (hf : X.env.frame = some X.env.locals) (hN : X.N.Nodup) (tk : Takes X w)
    (hb : ∀ (W' : WX) (pn : List (Addr × Obj)) (xe : Value → Shared → Prop), Takes (X.tr pn xe) W' → PassesOwn (model X.prog X.w) X.A X.env xe → SSs (X.tr pn xe) ⟨W', none⟩ body gs) (hh : ClsOk X (h₀ :: hds) l z) :
    SS X ⟨w, none⟩ (.Try body (h₀ :: hds) [] [] pos) (sTryN gs l) :=
  ps_weak (ps_tryNamed (tb := fun W' => SOf X.K X.mg ⟨W', none⟩ gs) hs hf hN tk hb hh.named) fun D σ H ⟨m, sg, st, e, rm, rs, hp⟩ => ⟨m, sg, st, e, rm, rs, by
    unfold sTryN at hp
    cases hg : gs sg st with
    | exc c o sg1 st1 =>
      rw [hg] at hp
      exact hh.wish hp
    | nx sg1 st1 => rw [hg] at hp; exact hp
    | ret d st1 => rw [hg] at hp; exact hp
    | brk sg1 st1 => rw [hg] at hp; exact hp
    | cnt sg1 st1 => rw [hg] at hp; exact hp
    | bad => rw [hg] at hp; exact hp⟩
end
/-! within a suite: e.field -/
@[simp] def fXf (i : Nat) (o : Option D) : EF := fun sg st => match sg[i]?, o with
  | some none, some d => .ok d st
  | _, _ => .bad
theorem se_xf {X : Cx} {y : Ex} {C : Addr} {oe : Obj} {pn : List (Addr × Obj)} {e : Expr} {pos : Pos} {f : Str} (hcl : y.cls = .ref C) (T : XfC X.K C) (hno : PySem.W.findIn X.K (.ref C) f = some none) (hfl : xFld y.c = f) (hz : Zc (.ref C) y.d oe) (hf : ∃ vs, oe.data = .fields vs)
    (he : PE (X.suite y.a ((y.a, oe) :: pn)) e (tVar y.i)) (hb : attributeBase e f X.env (eval e X.env) = eval e X.env := by rfl) : SE (X.suite y.a ((y.a, oe) :: pn)) (WS y) (.Attribute e f pos) (fXf y.i y.o) :=
  pe_weak (pe_xf (cls := .ref C) T hno hz hf he hb) fun σ H Q ⟨m, sg, st, em, rm, rs, hp⟩ => by
    subst em
    unfold fXf at hp
    split at hp
    · rename_i d hsl ho
      obtain ⟨k1, z4⟩ := rs.2.2 y rfl hsl
      obtain ⟨C', c1, c2, c3⟩ := z4
      rw [ho] at c3
      obtain ⟨dd, w, d1, d2, d3⟩ := c3
      exact ⟨_, k1, rfl, rfl, dd, _, w, d1, rm.sub _ _ d2, by rw [hfl]; simp, hp.okc rm d3⟩
    · exact False.elim hp
/-- repr of an int -/
def bRepr : List D → Sto → Res D
  | [.int i], st => if i.natAbs.log2 < 1920 then .ok (.str (toString i)) st else .bad
  | _, _ => .bad
theorem fits_repr {X : Cx} {W : We} : FitsL X W (fun xs H Q => ∃ i, xs = [.int i] ∧ i.natAbs.log2 < 1920 ∧ Q (.str (toString i)) H) bRepr := by
  intro m st σ l vs Q rm q hp
  unfold bRepr at hp
  split at hp
  · split at hp
    · rename_i h
      cases q with
      | cons q1 q2 =>
        cases q1
        cases q2
        exact ⟨_, rfl, h, hp.okc rm (.str _)⟩
    · exact False.elim hp
  · exact False.elim hp
end Sh
/-! Part Q: texts: f-strings, str. -/
namespace Sh
open PySem L2 He
section
variable {X : Cx} {W : We} {e e1 e2 : Expr} {es : List Expr} {f : EF} {pos : Pos}
def dFmt : D → Sto → Res D
  | .str y, st => if y.length ≤ 16777216 then .ok (.str y) st else .bad
  | .int i, st => if i.natAbs.log2 < 1920 then .ok (.str (toString i)) st else .bad
  | _, _ => .bad
@[simp] def fFmt (f : EF) : EF := fun sg st => (f sg st).bind fun x st1 => dFmt x st1
theorem se_fmt (h : SE X W e f) : SE X W (.FormattedValue e (-1) none pos) (fFmt f) :=
  pe_weak (pe_fmt h) fun σ H Q ⟨m, sg, st, em, rm, rs, hp⟩ => ⟨m, sg, st, em, rm, rs, hp.bindc fun m1 x v st1 e1 r1 q1 hp1 => by
    unfold dFmt at hp1
    split at hp1
    · split at hp1
      · rename_i hz
        cases q1
        exact .inl ⟨_, rfl, le_line.mp hz, hp1.okc r1 (.str _)⟩
      · exact False.elim hp1
    · split at hp1
      · rename_i hz
        cases q1
        exact .inr ⟨_, rfl, hz, hp1.okc r1 (.str _)⟩
      · exact False.elim hp1
    · exact False.elim hp1⟩
/-- the parts, one behind the other -/
def fJs : List EF → Str → EF
  | [], acc => fun _ st => .ok (.str acc) st
  | f :: r, acc => fun sg st => (f sg st).bind fun x st1 => match x with
    | .str y => if (acc ++ y).length ≤ 16777216 then fJs r (acc ++ y) sg st1 else .bad
    | _ => .bad
inductive SJ (X : Cx) (W : We) : List Expr → List EF → Prop where
  | nil : SJ X W [] []
  | cons {e : Expr} {f : EF} {es : List Expr} {fs : List EF} (h : SE X W e f) (r : SJ X W es fs) : SJ X W (e :: es) (f :: fs)
theorem SJ.pj {es : List Expr} {fs : List EF} (h : SJ X W es fs) : PJ X es (fs.map fun f => TOf X.K X.mg W (RD X.K X.mg) f) := by
  induction h with
  | nil => exact .nil
  | cons h r ih => exact .cons h ih
theorem js_of {σ : St} {Q : Str → Hp → Prop} : ∀ {fs : List EF} {acc : Str} {m : Hw} {sg : Sg} {st : Sto}, Rel X.K X.mg m st → SgRep X.K X.mg W.e m sg σ → Post X.K X.mg W.w m σ (RD X.K X.mg) (fun v H3 => ∃ y, v = .str y ∧ Q y H3) (fJs fs acc sg st) →
    tJs (fs.map fun f => TOf X.K X.mg W (RD X.K X.mg) f) acc σ m.h Q
  | [], acc, m, sg, st, rm, rs, hp => by
    obtain ⟨y, e, q⟩ := hp m (.str acc) (Ext.refl m) rm (.str acc)
    cases e
    exact q
  | f :: r, acc, m, sg, st, rm, rs, hp => by
    refine ⟨m, sg, st, rfl, rm, rs, Post.bindc (x := f sg st) hp fun m1 x v st1 e1 r1 q1 hp1 => ?_⟩
    split at hp1
    · rename_i y
      split at hp1
      · rename_i hl
        cases q1
        exact ⟨y, rfl, le_line.mp hl, js_of r1 (rs.mono e1) hp1⟩
      · exact False.elim hp1
    · exact False.elim hp1
theorem post_str {m : Hw} {σ : St} {Q : VK} : ∀ {fs : List EF} {acc : Str} {sg : Sg} {st : Sto}, Post X.K X.mg W.w m σ (RD X.K X.mg) Q (fJs fs acc sg st) → Post X.K X.mg W.w m σ (RD X.K X.mg) (fun v H3 => ∃ y, v = .str y ∧ Q (.str y) H3) (fJs fs acc sg st) := by
  intro fs acc sg st hp
  have key : ∀ (fs : List EF) (acc : Str) (sg : Sg) (st : Sto) d st2, fJs fs acc sg st = .ok d st2 → ∃ y, d = .str y := by
    intro fs
    induction fs with
    | nil => intro acc sg st d st2 e; cases e; exact ⟨_, rfl⟩
    | cons f r ih =>
      intro acc sg st d st2 e
      unfold fJs at e
      cases hf : f sg st with
      | ok x st1 =>
        rw [hf] at e
        dsimp only [Res.bind_ok] at e
        split at e
        · split at e
          · exact ih _ _ _ _ _ e
          · cases e
        · cases e
      | exc c o st1 => rw [hf] at e; cases e
      | bad => rw [hf] at e; cases e
  cases hz : fJs fs acc sg st with
  | ok d st1 =>
    rw [hz] at hp
    obtain ⟨y, rfl⟩ := key _ _ _ _ _ _ hz
    intro m' v e r q
    have := hp m' v e r q
    cases q
    exact ⟨y, rfl, this⟩
  | exc c o st1 => rw [hz] at hp; exact hp
  | bad => rw [hz] at hp; exact False.elim hp
theorem se_joined {fs : List EF} (h : SJ X W (e1 :: e2 :: es) fs) : SE X W (.JoinedStr (e1 :: e2 :: es) pos) (fJs fs Str.empty) :=
  pe_weak (pe_joined h.pj) fun σ H Q ⟨m, sg, st, em, rm, rs, hp⟩ => by
    subst em
    exact js_of rm rs (post_str hp)
/-- str(i), str(x) -/
def bStr : List D → Sto → Res D
  | [.int i], st => if i.natAbs.log2 < 1920 then .ok (.str (toString i)) st else .bad
  | [.str x], st => .ok (.str x) st
  | _, _ => .bad
theorem call_strA : CallR X (.type "str") (fun xs H Q => (∃ i, xs = [.int i] ∧ i.natAbs.log2 < 1920 ∧ Q (.str (toString i)) H) ∨ ∃ a, xs = [.str a] ∧ Q (.str a) H) := by
  intro pins s σ H xs us Q I r h
  rcases h with h | h
  · exact call_str_int pins s σ H xs us Q I r h
  · exact SkE.call_str_str pins s σ H xs us Q I r h
theorem fits_str : FitsL X W (fun xs H Q => (∃ i, xs = [.int i] ∧ i.natAbs.log2 < 1920 ∧ Q (.str (toString i)) H) ∨ ∃ a, xs = [.str a] ∧ Q (.str a) H) bStr := by
  intro m st σ l vs Q rm q hp
  unfold bStr at hp
  split at hp
  · split at hp
    · rename_i h
      cases q with
      | cons q1 q2 =>
        cases q1
        cases q2
        exact .inl ⟨_, rfl, h, hp.okc rm (.str _)⟩
    · exact False.elim hp
  · cases q with
    | cons q1 q2 =>
      cases q1
      cases q2
      exact .inr ⟨_, rfl, hp.okc rm (.str _)⟩
  · exact False.elim hp
end
end Sh
/-! Part R: dicts of the store. -/
namespace Sh
open PySem L2 He
def keyD : Key → D
  | .inl i => .int i
  | .inr x => .str x
def dKey : D → Option Key
  | .int i => some (.inl i)
  | .str x => some (.inr x)
  | _ => none
def putD (l : List (Key × D)) (k : Key) (d : D) : List (Key × D) := if (l.any fun kv => decide (kv.1 = k)) = true then l.map (fun kv => if kv.1 = k then (kv.1, d) else kv) else l ++ [(k, d)]
def mergeD (l more : List (Key × D)) : List (Key × D) := more.foldl (fun acc kv => putD acc kv.1 kv.2) l
section
variable {K : PySem.W.Frag} {mg : Str → Option Value} {r : List Addr} {G : Hp}
/-- pairs, as they stand in a dict -/
inductive KRel (K : PySem.W.Frag) (mg : Str → Option Value) (r : List Addr) (G : Hp) : List (Key × D) → List (Key × V) → Prop
  | nil : KRel K mg r G [] []
  | cons {k : Key} {d : D} {v : V} {l : List (Key × D)} {vs : List (Key × V)} (h : Rep K mg r G d v) (t : KRel K mg r G l vs) : KRel K mg r G ((k, d) :: l) ((k, v) :: vs)
theorem KRel.of : ∀ {l : List (Key × D)} {vs : List (Key × V)}, vs.map (·.1) = l.map (·.1) → Reps K mg r G (l.map (·.2)) (vs.map (·.2)) → KRel K mg r G l vs
  | [], [], _, _ => .nil
  | [], _ :: _, h, _ => by simp at h
  | _ :: _, [], h, _ => by simp at h
  | (k, d) :: l, (k', v) :: vs, h, q => by
    simp at h
    obtain ⟨h1, h2⟩ := h
    subst h1
    cases q with
    | cons q1 q2 => exact .cons q1 (KRel.of h2 q2)
theorem KRel.to {l : List (Key × D)} {vs : List (Key × V)} (h : KRel K mg r G l vs) : vs.map (·.1) = l.map (·.1) ∧ Reps K mg r G (l.map (·.2)) (vs.map (·.2)) := by
  induction h with
  | nil => exact ⟨rfl, .nil⟩
  | cons h t ih => exact ⟨by simp [ih.1], .cons h ih.2⟩
theorem KRel.any {l : List (Key × D)} {vs : List (Key × V)} (h : KRel K mg r G l vs) (k : Key) : (vs.any fun kv => decide (kv.1 = k)) = l.any fun kv => decide (kv.1 = k) := by
  induction h with
  | nil => rfl
  | cons h t ih => simp only [List.any_cons, ih]
theorem KRel.snoc {l : List (Key × D)} {vs : List (Key × V)} (h : KRel K mg r G l vs) {k : Key} {d : D} {v : V} (q : Rep K mg r G d v) : KRel K mg r G (l ++ [(k, d)]) (vs ++ [(k, v)]) := by
  induction h with
  | nil => exact .cons q .nil
  | cons h t ih => exact .cons h ih
theorem KRel.put {l : List (Key × D)} {vs : List (Key × V)} (h : KRel K mg r G l vs) {k : Key} {d : D} {v : V} (q : Rep K mg r G d v) : KRel K mg r G (putD l k d) (putK vs k v) := by
  unfold putD putK
  rw [h.any k]
  split
  · rename_i hh
    clear hh
    induction h with
    | nil => exact .nil
    | @cons k' d' v' l vs h t ih =>
      simp only [List.map_cons]
      by_cases e : k' = k
      · rw [if_pos e, if_pos e]; exact .cons q ih
      · rw [if_neg e, if_neg e]; exact .cons h ih
  · exact h.snoc q
theorem KRel.merge {more : List (Key × D)} {ms : List (Key × V)} (hm : KRel K mg r G more ms) : ∀ {l : List (Key × D)} {vs : List (Key × V)}, KRel K mg r G l vs → KRel K mg r G (mergeD l more) (mergeK vs ms) := by
  induction hm with
  | nil => intro l vs h; exact h
  | cons q t ih => intro l vs h; exact ih (h.put q)
def getD (l : List (Key × D)) (k : Key) : Option D := (l.find? fun kv => decide (kv.1 = k)).map (·.2)
theorem KRel.get {l : List (Key × D)} {vs : List (Key × V)} (h : KRel K mg r G l vs) (k : Key) : (getD l k = none ∧ valV vs k = none) ∨ ∃ d v, getD l k = some d ∧ valV vs k = some v ∧ Rep K mg r G d v := by
  induction h with
  | nil => exact .inl ⟨rfl, rfl⟩
  | @cons k' d' v' l vs h t ih =>
    by_cases e : k' = k
    · exact .inr ⟨d', v', by simp [getD, e], valV_pos e, h⟩
    · rcases ih with ⟨a, b⟩ | ⟨d, v, a, b, c⟩
      · exact .inl ⟨by unfold getD at a ⊢; simpa [e] using a, by rw [valV_neg e]; exact b⟩
      · exact .inr ⟨d, v, by unfold getD at a ⊢; simpa [e] using a, by rw [valV_neg e]; exact b, c⟩
end
section
variable {X : Cx} {W : We} {o e f : Expr} {fo fe ff : EF} {pos cpos apos : Pos}
/-- the pairs of a display -/
def fPairs : List (EF × EF) → Sg → Sto → Res (List (Key × D))
  | [], _, st => .ok [] st
  | (fk, fv) :: r, sg, st => (fk sg st).bind fun x st1 => (fv sg st1).bind fun y st2 => (fPairs r sg st2).bind fun l st3 => match dKey x with
    | some k => .ok ((k, y) :: l) st3
    | none => .bad
def dispF (ps : List (EF × EF)) (n : Nat) (sg : Sg) (st : Sto) : Res D := (fPairs ps sg (st ++ [.dict []])).bind fun l st1 => match st1[n]? with
  | some (.dict []) => if l.length ≤ 15 then .ok (.loc n) (st1.set n (.dict (mergeD [] l))) else .bad
  | _ => .bad
/-- {k: v, ..} : a dict of the store -/
def fDisp (ps : List (EF × EF)) : EF := fun sg st => dispF ps st.length sg st
inductive SPs (X : Cx) (W : We) : List (Option Expr) → List Expr → List (EF × EF) → Prop
  | nil : SPs X W [] [] []
  | cons {k v : Expr} {ks : List (Option Expr)} {vs : List Expr} {fk fv : EF} {ps : List (EF × EF)} (hk : SE X W k fk) (hv : SE X W v fv) (r : SPs X W ks vs ps) : SPs X W (some k :: ks) (v :: vs) ((fk, fv) :: ps)
theorem SPs.pps {ks : List (Option Expr)} {vs : List Expr} {ps : List (EF × EF)} (h : SPs X W ks vs ps) {pos : Pos} : PPs X pos ks vs (ps.map fun p => (TOf X.K X.mg W (RD X.K X.mg) p.1, TOf X.K X.mg W (RD X.K X.mg) p.2)) := by
  induction h with
  | nil => exact pps_nil
  | cons hk hv r ih => exact pps_cons hk hv ih
theorem key_rep {r : List Addr} {G : Hp} {x : D} {v : V} {k : Key} (h : Rep X.K X.mg r G x v) (e : dKey x = some k) : v = kV k := by
  cases x <;> first | (cases e; done) | skip
  · cases e; cases h; rfl
  · cases e; cases h; rfl
theorem pairs_of {σ : St} {Q : List (V × V) → Hp → Prop} : ∀ {ps : List (EF × EF)} {m : Hw} {sg : Sg} {st : Sto}, Rel X.K X.mg m st → SgRep X.K X.mg W.e m sg σ →
    Post X.K X.mg W.w m σ (fun m' (l : List (Key × D)) (vs : List (Key × V)) => KRel X.K X.mg m'.r m'.g l vs) (fun vs H3 => Q (vs.map fun kv => (kV kv.1, kv.2)) H3) (fPairs ps sg st) →
    tPairs (ps.map fun p => (TOf X.K X.mg W (RD X.K X.mg) p.1, TOf X.K X.mg W (RD X.K X.mg) p.2)) σ m.h Q
  | [], m, sg, st, rm, rs, hp => hp m [] (Ext.refl m) rm .nil
  | (fk, fv) :: ps, m, sg, st, rm, rs, hp => by
    refine ⟨m, sg, st, rfl, rm, rs, Post.bindc (x := fk sg st) hp fun m1 x v st1 e1 r1 q1 hp1 => ⟨m1, sg, st1, rfl, r1, rs.mono e1, hp1.bindc fun m2 y w st2 e2 r2 q2 hp2 => ?_⟩⟩
    refine pairs_of r2 (rs.mono (e1.trans e2)) (hp2.bindc fun m3 l vs st3 e3 r3 q3 hp3 => ?_)
    split at hp3
    · rename_i k hk
      have := key_rep q1 hk
      subst this
      exact hp3.okc r3 (v := (k, w) :: vs) (.cons (q2.mono e3) q3)
    · exact False.elim hp3
theorem se_disp {keys : List (Option Expr)} {values : List Expr} {ps : List (EF × EF)} (h : SPs X W keys values ps) (hall : keys.all (·.isSome) = true) (hl : keys.length = values.length) (h0 : keys ≠ []) (h15 : keys.length ≤ 15) : SE X W (.Dict keys values pos) (fDisp ps) :=
  pe_weak (pe_disp h.pps hall hl h0 h15) fun σ H Q ⟨m, sg, st, em, rm, rs, hp⟩ => by
    subst em
    intro p hn
    have e0 : Ext m (m.new p (.dK [])) := Ext.new rm hn
    have r0 : Rel X.K X.mg (m.new p (.dK [])) (st ++ [.dict []]) := rm.new hn ⟨[], upd_same, rfl, .nil⟩
    have at0 : (m.new p (.dK [])).r[st.length]? = some p := by
      show (m.r ++ [p])[st.length]? = _
      rw [← rm.len, List.getElem?_append_right (Nat.le_refl _)]
      simp
    have hp1 := Post.mono hp e0
    refine pairs_of r0 (rs.mono e0) (Post.bindc (x := fPairs ps sg (st ++ [.dict []])) hp1 fun m1 l vs st1 e1 r1 q1 hp2 => ?_)
    split at hp2
    · rename_i hd
      split at hp2
      · rename_i hlen
        obtain ⟨kvs, k1, k2, k3⟩ := r1.obj _ _ _ (e1.at_ at0) hd
        have : kvs = [] := by cases kvs with
          | nil => rfl
          | cons a b => simp at k2
        subst this
        have hlv : vs.length ≤ 15 := by
          have z := congrArg List.length (KRel.to q1).1
          simp at z
          omega
        refine ⟨k1, vs, rfl, hlv, ?_⟩
        have hm := q1.merge (l := []) (vs := []) .nil
        exact hp2 (m1.put p (.dK (mergeK [] vs))) (.ref p) (Ext.put (List.mem_of_getElem? (e1.at_ at0))) (r1.put (e1.at_ at0) ⟨_, upd_same, (KRel.to hm).1, (KRel.to hm).2⟩) (.loc (e1.at_ at0))
      · exact False.elim hp2
    · exact False.elim hp2
/-- d.get(k, x) -/
def kvS : Option SO → Option (List (Key × D))
  | some (.dict l) => some l
  | some (.lock l _ _) => some l
  | _ => none
@[simp] theorem kvS_dict (l : List (Key × D)) : kvS (some (.dict l)) = some l := rfl
@[simp] theorem kvS_lock (l : List (Key × D)) (o : Obj) (kvs : List (Key × V)) : kvS (some (.lock l o kvs)) = some l := rfl
def isDict : D → Sto → Bool
  | .loc n, st => (kvS st[n]?).isSome
  | _, _ => false
def dGet (x k z : D) (st : Sto) : Res D := match x, dKey k with
  | .loc n, some k => match kvS st[n]? with
    | some l => .ok ((getD l k).getD z) st
    | none => .bad
  | _, _ => .bad
theorem DGet.kR {H : Hp} {a : Addr} {kvs : List (Key × V)} {k : Key} (e : Rd H a (.dK kvs)) : DGet H a (kV k) (valV kvs k) := .inl ⟨kvs, k, e, rfl, rfl⟩
@[simp] def fGet2 (fo fe ff : EF) : EF := fun sg st => (fo sg st).bind fun x st1 => if isDict x st1 = true then ((fe sg st1).bind fun k st2 => (ff sg st2).bind fun z st3 => dGet x k z st3) else .bad
theorem dict_at {m : Hw} {st : Sto} {n : Nat} {l : List (Key × D)} {v : V} (rm : Rel X.K X.mg m st) (q : Rep X.K X.mg m.r m.g (.loc n) v) (e : st[n]? = some (.dict l)) : ∃ a kvs, v = .ref a ∧ m.h a = some (.dK kvs) ∧ KRel X.K X.mg m.r m.g l kvs := by
  cases q with
  | loc h1 =>
    obtain ⟨kvs, k1, k2, k3⟩ := rm.obj _ _ _ h1 e
    exact ⟨_, kvs, rfl, k1, KRel.of k2 k3⟩
theorem dict_rd {m : Hw} {st : Sto} {n : Nat} {l : List (Key × D)} {v : V} (rm : Rel X.K X.mg m st) (q : Rep X.K X.mg m.r m.g (.loc n) v) (e : kvS st[n]? = some l) : ∃ a kvs, v = .ref a ∧ Rd m.h a (.dK kvs) ∧ KRel X.K X.mg m.r m.g l kvs := by
  cases q with
  | loc h1 =>
    unfold kvS at e
    split at e
    · rename_i l' hl
      cases e
      obtain ⟨kvs, k1, k2, k3⟩ := rm.obj _ _ _ h1 hl
      exact ⟨_, kvs, rfl, .inl k1, KRel.of k2 k3⟩
    · rename_i l' o kvs hl
      cases e
      obtain ⟨k1, k2, k3⟩ := rm.obj _ _ _ h1 hl
      exact ⟨_, kvs, rfl, .inr ⟨_, k1⟩, KRel.of k2 k3⟩
    · cases e
theorem isDict_at {m : Hw} {st : Sto} {x : D} {v : V} (rm : Rel X.K X.mg m st) (q : Rep X.K X.mg m.r m.g x v) (e : isDict x st = true) : ∃ a, v = .ref a ∧ IsD m.h a := by
  unfold isDict at e
  split at e
  · obtain ⟨l, hl⟩ := Option.isSome_iff_exists.mp e
    obtain ⟨a, kvs, h1, h2, _⟩ := dict_rd rm q hl
    exact ⟨a, h1, .inl ⟨kvs, h2⟩⟩
  · cases e
theorem se_get2 (hu : X.A.units + 1 < cLine) (ho : SE X W o fo) (he : SE X W e fe) (hf : SE X W f ff) (m2 : M2 X o "get" apos e f cpos) : SE X W (.Call (.Attribute o "get" apos) [e, f] [] cpos) (fGet2 fo fe ff) :=
  pe_weak (pe_dget2 hu ho he hf m2) fun σ H Q ⟨m, sg, st, em, rm, rs, hp⟩ => ⟨m, sg, st, em, rm, rs, hp.bindc fun m1 x v st1 e1 r1 q1 hp1 => by
    split at hp1
    · rename_i hd
      obtain ⟨a, rfl, ia⟩ := isDict_at r1 q1 hd
      refine ⟨a, rfl, ia, m1, sg, st1, rfl, r1, rs.mono e1, hp1.bindc fun m2 k kv st2 e2 r2 q2 hp2 => ⟨m2, sg, st2, rfl, r2, (rs.mono e1).mono e2, hp2.bindc fun m3 z zv st3 e3 r3 q3 hp3 => ?_⟩⟩
      unfold dGet at hp3
      split at hp3
      · rename_i n k' hk
        split at hp3
        · rename_i l hl
          obtain ⟨a', kvs, ea, h2, h3⟩ := dict_rd r3 (q1.mono (e2.trans e3)) hl
          cases ea
          have := key_rep q2 hk
          subst this
          rcases h3.get k' with ⟨g1, g2⟩ | ⟨d, v, g1, g2, g3⟩
          · rw [g1] at hp3
            exact ⟨none, by rw [← g2]; exact DGet.kR h2, hp3.okc r3 q3⟩
          · rw [g1] at hp3
            exact ⟨some v, by rw [← g2]; exact DGet.kR h2, hp3.okc r3 g3⟩
        · exact False.elim hp3
      · exact False.elim hp3
    · exact False.elim hp1⟩
end
end Sh
/-! Part S: what a def made for itself is forgotten at its end. -/
namespace Sh
open PySem L2 He
def soPu : SO → Bool
  | .lst l => pus l
  | .dict l => pus (l.map (·.2))
  | .ins _ l => pus l
  | .lock _ _ _ => false
open Classical in
noncomputable def cutF (F : FF) : FF := fun ds st => match F ds st with
  | .ok d st2 => if pu d = true ∧ (st2.take st.length).all soPu = true then .ok d (st2.take st.length) else .bad
  | .exc c none st2 => if (st2.take st.length).all soPu = true then .exc c none (st2.take st.length) else .bad
  | .exc c (some d) st2 => if pu d = true ∧ (st2.take st.length).all soPu = true then .exc c (some d) (st2.take st.length) else .bad
  | .bad => .bad
section
variable {K : PySem.W.Frag} {mg : Str → Option Value} {W : WX} {σ : St} {m : Hw}
theorem ext_cut {m' : Hw} (e : Ext m m') : Ext m ⟨m.r, m'.g, m'.h⟩ := ⟨⟨[], by simp⟩, e.g, fun a u q n => let ⟨j1, _, j3⟩ := e.fr a u q n; ⟨j1, n, j3⟩⟩
theorem rel_cut2 {m' : Hw} {st st2 : Sto} (R : Rel K mg m st) (R' : Rel K mg m' st2) (e : Ext m m') (h : (st2.take st.length).all soPu = true) : Rel K mg ⟨m.r, m'.g, m'.h⟩ (st2.take st.length) := by
  obtain ⟨t, ht⟩ := e.pre
  have hl : st.length ≤ st2.length := by
    rw [← R.len, ← R'.len, ht]
    simp
  refine ⟨R'.sub, ?_, R.nd, fun a z => R'.off a (by rw [ht]; exact List.mem_append_left _ z), fun n a so e1 e2 => ?_⟩
  · rw [List.length_take, R.len]; omega
  · have e1 : m.r[n]? = some a := e1
    have hn : n < st.length := by rw [← R.len]; exact (List.getElem?_eq_some_iff.mp e1).1
    have hp : soPu so = true := List.all_eq_true.mp h so (List.mem_of_getElem? e2)
    rw [List.getElem?_take_of_lt hn] at e2
    have q := R'.obj n a so (e.at_ e1) e2
    cases so with
    | lst l => obtain ⟨vs, a1, a2⟩ := q; exact ⟨vs, a1, reps_pu _ _ hp a2⟩
    | dict l => obtain ⟨vs, a1, a2, a3⟩ := q; exact ⟨vs, a1, a2, reps_pu _ _ hp a3⟩
    | ins c l => obtain ⟨C, dx, fs, a1, a2, a3, a4⟩ := q; exact ⟨C, dx, fs, a1, a2, a3, reps_pu _ _ hp a4⟩
    | lock l o kvs => cases hp
theorem cut_post {F : FF} {ds : List D} {st : Sto} {Q : VK} (rm : Rel K mg m st) (hp : Post K mg W m σ (RD K mg) Q (cutF F ds st)) : Post K mg W m σ (RD K mg) Q (F ds st) := by
  unfold cutF at hp
  split at hp
  · rename_i d st2 hf
    rw [hf]
    split at hp
    · rename_i h
      exact fun m' v e r q => hp ⟨m.r, m'.g, m'.h⟩ v (ext_cut e) (rel_cut2 rm r e h.2) (rep_pu _ _ h.1 q)
    · exact False.elim hp
  · rename_i c st2 hf
    rw [hf]
    split at hp
    · rename_i h
      exact fun m' cls dx e r x => hp ⟨m.r, m'.g, m'.h⟩ cls dx (ext_cut e) (rel_cut2 rm r e h) x
    · exact False.elim hp
  · rename_i c d st2 hf
    rw [hf]
    split at hp
    · rename_i h
      exact fun m' cls dx e r x => hp ⟨m.r, m'.g, m'.h⟩ cls dx (ext_cut e) (rel_cut2 rm r e h.2) (by
        obtain ⟨C, h1, h2, a, v, h3, h4, h5⟩ := x
        exact ⟨C, h1, h2, a, v, h3, h4, rep_pu _ _ h.1 h5⟩)
    · exact False.elim hp
  · exact False.elim hp
theorem spF_cut {n : Nat} {F : FF} {vs : List V} {H : Hp} {Q : VK} {E : XK} (h : spF K mg n (cutF F) vs H Q E) : spF K mg n F vs H Q E := by
  obtain ⟨m, ds, st, h1, h2, h3, h4, h5⟩ := h
  exact ⟨m, ds, st, h1, h2, h3, h4, cut_post h2 h5⟩
/-- a def whose own things are forgotten -/
theorem DefOk.cut {P : Program} {w : World} {base : Heap} {k : Nat} {f : Addr} {ps : List Str} {dvs : List V} {F : FF} (h : DefOk P w K mg base k f ps dvs F) : DefOk P w K mg base k f ps dvs (cutF F) := by
  obtain ⟨⟨fd, h1, h2, h3⟩, h4⟩ := h
  exact ⟨⟨fd, h1.imp fun vs H Q E z => spF_cut z, h2, h3⟩, h4⟩
/-- the same; a list that is given back is only read from then on -/
noncomputable def frzF (F : FF) : FF := fun ds st => match F ds st with
  | .ok (.loc n) st2 => if st.length ≤ n ∧ (st2.take st.length).all soPu = true then (match st2[n]? with
    | some (.lst l) => if pus l = true then .ok (.lst l) (st2.take st.length) else .bad
    | _ => .bad) else .bad
  | _ => cutF F ds st
theorem frz_post {F : FF} {ds : List D} {st : Sto} {Q : VK} (rm : Rel K mg m st) (hp : Post K mg W m σ (RD K mg) Q (frzF F ds st)) : Post K mg W m σ (RD K mg) Q (F ds st) := by
  unfold frzF at hp
  split at hp
  · rename_i n st2 hf
    rw [hf]
    split at hp
    · rename_i h
      obtain ⟨hn, ho⟩ := h
      split at hp
      · rename_i l hl
        split at hp
        · rename_i hpu
          intro m' v e r q
          cases q with
          | @loc _ a ha =>
            obtain ⟨vs, h1, h2⟩ := r.obj _ _ _ ha hl
            have ga : m'.g a = none := r.off a (List.mem_of_getElem? ha)
            have na : a ∉ m.r := fun hm => by
              obtain ⟨i, hi⟩ := List.getElem?_of_mem hm
              have hj := e.at_ hi
              have := nodup_ix' r.nd hj ha
              have hlt : i < m.r.length := (List.getElem?_eq_some_iff.mp hi).1
              rw [rm.len] at hlt
              omega
            have up : ∀ b u, m'.g b = some u → upd m'.g a (.lst vs) b = some u := fun b u z => by rw [upd_ne (ne_of_none z ga)]; exact z
            have r2 := rel_cut2 rm r e ho
            have hna : ∀ u, m.h a = some u → a ∉ m.r → False := fun u z n' => (e.fr a u z n').2.1 (List.mem_of_getElem? ha)
            refine hp ⟨m.r, upd m'.g a (.lst vs), m'.h⟩ (.ref a) ⟨⟨[], by simp⟩, fun b u z => up b u (e.g b u z), fun b u z n' => ?_⟩ ⟨fun b u z => ?_, r2.len, r2.nd, fun b z => ?_, fun i b so z1 z2 => ?_⟩ (.lst upd_same (reps_pu _ _ hpu (Reps.mono' (fun _ _ z => z) up _ _ h2)))
            · obtain ⟨j1, _, j3⟩ := e.fr b u z n'
              refine ⟨j1, n', fun z0 => ?_⟩
              have hb : b ≠ a := fun q => by subst q; exact hna u z n'
              show upd m'.g a (.lst vs) b = none
              rw [upd_ne hb]; exact j3 z0
            · have z : upd m'.g a (.lst vs) b = some u := z
              by_cases hb : b = a
              · subst hb; rw [upd_same] at z; cases z; exact h1
              · rw [upd_ne hb] at z; exact r.sub b u z
            · have hb : b ≠ a := fun q => na (q ▸ z)
              show upd m'.g a (.lst vs) b = none
              rw [upd_ne hb]; exact r2.off b z
            · exact (r2.obj i b so z1 z2).mono' (fun _ _ z => z) up fun _ z => z
        · exact False.elim hp
      · exact False.elim hp
    · exact False.elim hp
  · exact cut_post rm hp
theorem spF_frz {n : Nat} {F : FF} {vs : List V} {H : Hp} {Q : VK} {E : XK} (h : spF K mg n (frzF F) vs H Q E) : spF K mg n F vs H Q E := by
  obtain ⟨m, ds, st, h1, h2, h3, h4, h5⟩ := h
  exact ⟨m, ds, st, h1, h2, h3, h4, frz_post h2 h5⟩
theorem DefOk.frz {P : Program} {w : World} {base : Heap} {k : Nat} {f : Addr} {ps : List Str} {dvs : List V} {F : FF} (h : DefOk P w K mg base k f ps dvs F) : DefOk P w K mg base k f ps dvs (frzF F) := by
  obtain ⟨⟨fd, h1, h2, h3⟩, h4⟩ := h
  exact ⟨⟨fd, h1.imp fun vs H Q E z => spF_frz z, h2, h3⟩, h4⟩
end
end Sh
/-! Part T: what is walked: any sequence, enumerate, zip, a range with a step. -/
namespace Sh
open PySem PySem.Spec PyProof.Rows L2
/-! any sequence -/
section
variable {X : Cx} {tg e : Expr} {te : TE}
def iSqA (K : PySem.W.Frag) (te : TE) : TI := fun σ H R => te σ H fun x H1 => (∃ a, x = .ref a ∧ (∃ xs, SqL K H1 a xs) ∧ R (Itl K a) H1) ∨ (∃ a, x = .ref a ∧ (∃ xs, SqT K H1 a xs) ∧ R (Itt K a) H1) ∨ ∃ z, x = .str z ∧ R (Its z) H1
theorem pi_sqA (he : PE X e te) : PI X tg e (iSqA X.K te) := by
  refine ⟨fun pins s σ H R I h => ?_⟩
  refine thn (he.run pins s σ H _ I h) fun v s1 ⟨x, H1, I1, r1, q1⟩ => ?_
  rcases q1 with ⟨a, e, ⟨xs, hq⟩, q⟩ | ⟨a, e, ⟨xs, hq⟩, q⟩ | ⟨x, ex, q⟩
  · subst e
    cases r1
    obtain ⟨its, rv, p, hz⟩ := I1.list hq
    refine wpAny_pyIter_list p.isList ?_
    refine ⟨s1.heap.objs.size, [s1.heap.objs.size], _, _, H1, rfl, I1.kept (t' := s1.toks) fun b o e => Heap.get?_push_of_some _ e, turn_list a _, ⟨_, Heap.get?_push_size _ rfl, rfl, rfl⟩, fun b hb => ?_, q⟩
    have e : b = s1.heap.objs.size := by simpa using hb
    subst e
    exact I1.fpOk (Nat.le_refl _) (I1.hok.fresh (Nat.le_refl _))
  · subst e
    cases r1
    obtain ⟨its, rv, p, hz⟩ := I1.tuple hq
    refine wpAny_pyIter_tuple (show s1.heap.IsTuple a its.toArray from p) ?_
    refine ⟨s1.heap.objs.size, [s1.heap.objs.size], _, _, H1, rfl, I1.kept (t' := s1.toks) fun b o e => Heap.get?_push_of_some _ e, turn_tuple a _, ⟨_, Heap.get?_push_size _ rfl, rfl, rfl⟩, fun b hb => ?_, q⟩
    have e : b = s1.heap.objs.size := by simpa using hb
    subst e
    exact I1.fpOk (Nat.le_refl _) (I1.hok.fresh (Nat.le_refl _))
  · subst ex
    obtain ⟨t, rfl⟩ := r1
    cases ha : x.cps.all (· < 128)
    · exact wpAny_pyIter_wide ha (pi_one (tk := s1.toks) I1 _ (turn_str _ x t "str_iterator" (.inr rfl)) ⟨_, Heap.get?_push_size _ rfl, rfl, rfl⟩ q)
    · exact wpAny_pyIter_ascii ha (pi_one (tk := s1.toks) I1 _ (turn_str _ x t "str_ascii_iterator" (.inl rfl)) ⟨_, Heap.get?_push_size _ rfl, rfl, rfl⟩ q)
end
def chD (x : Str) : List D := x.cps.toList.map fun c => .str ⟨#[c]⟩
theorem its_ok {K : PySem.W.Frag} {mg : Str → Option Value} {m : Hw} {x : Str} {ck : Sto → Prop} : ItOk K mg m (Its x) (chD x) ck := by
  intro m1 st1 e1 r1 c1 i
  refine ⟨fun hl => by
    have hl' : x.cps.toList.length ≤ i := by simpa [chD] using hl
    have : x.cps.size ≤ i := by simpa using hl'
    exact this, fun d hd => ?_⟩
  unfold chD at hd
  rw [List.getElem?_map] at hd
  obtain ⟨c, h1, h2⟩ := Option.map_eq_some_iff.mp hd
  subst h2
  have hi : i < x.cps.toList.length := (List.getElem?_eq_some_iff.mp h1).1
  refine ⟨(by simpa using hi : i < x.cps.size), fun v H' ⟨e, c', hc, hv⟩ => ⟨m1, e.symm, Ext.refl _, r1, ?_⟩⟩
  have h3 : x.cps[i]? = some c := by simpa using h1
  rw [h3] at hc
  cases hc
  rw [hv]
  exact .str _
section
variable {X : Cx} {W : We} {tg iter e e2 a b c : Expr} {f : EF} {g : AF} {p pos tpos : Pos} {elts : List Expr} {kk : Nat}
@[simp] def iAny (f : EF) : IF := fun sg st => (f sg st).bind fun x st1 => match x with
  | .lst l => .ok ⟨l, fun _ => True⟩ st1
  | .tup l => .ok ⟨l, fun _ => True⟩ st1
  | .scr l => .ok ⟨l.map .int, fun _ => True⟩ st1
  | .str x => .ok ⟨chD x, fun _ => True⟩ st1
  | .loc n => match st1[n]? with
    | some (.lst l) => .ok ⟨l, fun st => st[n]? = some (.lst l)⟩ st1
    | _ => .bad
  | _ => .bad
theorem si_any (he : SE X W iter f) : SI X W tg iter (iAny f) :=
  pi_weak (pi_sqA he) fun σ H R ⟨m, sg, st, e, rm, rs, hp⟩ => ⟨m, sg, st, e, rm, rs, hp.bindc fun m1 x v st1 e1 r1 q1 hp1 => by
    split at hp1
    · cases q1 with
      | lst h1 h2 => exact .inl ⟨_, rfl, ⟨_, .of (r1.sub _ _ h1)⟩, hp1.okc r1 (itl_ok fun m2 st2 e2 r2 _ => ⟨_, .of (r2.sub _ _ (e2.g _ _ h1)), h2.mono e2⟩)⟩
    · cases q1 with
      | tup h1 h2 => exact .inr (.inl ⟨_, rfl, ⟨_, sqT_mono r1.sub h1⟩, hp1.okc r1 (itt_ok fun m2 st2 e2 r2 _ => ⟨_, sqT_mono r2.sub (sqT_mono e2.g h1), h2.mono e2⟩)⟩)
    · cases q1 with
      | scr h1 => exact .inl ⟨_, rfl, ⟨_, sqL_mono r1.sub h1⟩, hp1.okc r1 (itl_ok fun m2 st2 e2 r2 _ => ⟨_, sqL_mono r2.sub (sqL_mono e2.g h1), reps_ints (X := X) _⟩)⟩
    · cases q1
      exact .inr (.inr ⟨_, rfl, hp1.okc r1 its_ok⟩)
    · cases q1 with
      | loc h1 =>
        split at hp1
        · rename_i l hl
          obtain ⟨vs, k1, k2⟩ := r1.obj _ _ _ h1 hl
          refine .inl ⟨_, rfl, ⟨_, .of k1⟩, hp1.okc r1 (itl_ok fun m2 st2 e2 r2 hc => ?_)⟩
          obtain ⟨ws, k3, k4⟩ := r2.obj _ _ _ (e2.at_ h1) hc
          exact ⟨ws, .of k3, k4⟩
        · exact False.elim hp1
    · exact False.elim hp1⟩
end
/-! enumerate of a tuple -/
theorem meets_enumT (l : Addr) (items : Array Value) :
    Meets (Builtin.«enumerate.__new__» ⟨[.type "enumerate", .ref l], []⟩) (fun _ R s => s.heap.IsTuple l items ∧
      R (.ok (.ret (.ref (s.heap.push { cls := .type "tuple_iterator", data := .fields #[.ref l, .int 0 0] }).objs.size)))
        { s with heap := (s.heap.push { cls := .type "tuple_iterator", data := .fields #[.ref l, .int 0 0] }).push { cls := .type "enumerate", data := .fields #[.none, .bool false, .ref s.heap.objs.size, rawInt 0, .none, .none] } }) :=
  .of_wp fun prog w A R s h => by
    obtain ⟨hp, g, d, tk, os⟩ := s; obtain ⟨hl, h⟩ := h
    have hsub := sub_enumerate
    have q1 : ∀ {A' : Around} {E : Value → Shared → Prop} {Q : Value → Shared → Prop}, Q (.ref hp.objs.size) ⟨hp.push { cls := .type "tuple_iterator", data := .fields #[.ref l, .int 0 0] }, g, d, tk, os⟩ → wpAny (model prog w) A' (pyIter (.ref l)) Q E ⟨hp, g, d, tk, os⟩ :=
      fun q => wpAny_pyIter_tuple hl q
    wp_walk using q1
    refine wpAny_stack_any fun st => wpAny_pure ?_
    split
    · rename_i c _ _ _ _ _
      cases (c == Value.type "enumerate")
      · wp_walk using q1
        exact ⟨_, rfl, h⟩
      · wp_walk using q1
        exact ⟨_, rfl, h⟩
    · wp_walk using q1
      exact ⟨_, rfl, h⟩
theorem call_enumT {prog : Program} {w : World} {A : Around} {E : Value → Shared → Prop} {s : Shared} {l : Addr} {items : Array Value} {Q : Value → Shared → Prop} (hL : s.heap.IsTuple l items)
    (h : ∀ h', IsEnum h' (s.heap.objs.size + 1) s.heap.objs.size 0 .none → h'.IsTupleIter s.heap.objs.size l 0 → h'.objs.size = s.heap.objs.size + 2 →
      (∀ b o, s.heap.get? b = some o → h'.get? b = some o) → Q (.ref (s.heap.objs.size + 1)) { s with heap := h' }) :
    wpAny (model prog w) A (call (.type "enumerate") [.ref l]) Q E s := by
  refine callType_new F.called_enumerate (by decide) (F.typeCall_enumerate_1 _) (F.newCall_enumerate_1 _) (fun obj => F.args_object_init_2 obj _) F.entry_enumerate_new
    (meets_enumT l items) ⟨hL, ?_⟩
  have hz : (s.heap.push { cls := .type "tuple_iterator", data := .fields #[.ref l, .int 0 0] }).objs.size = s.heap.objs.size + 1 := Heap.size_push ..
  show _ ∧ _
  rw [hz]
  have he : IsEnum ((s.heap.push { cls := .type "tuple_iterator", data := .fields #[.ref l, .int 0 0] }).push
      { cls := .type "enumerate", data := .fields #[.none, .bool false, .ref s.heap.objs.size, rawInt 0, .none, .none] }) (s.heap.objs.size + 1) s.heap.objs.size 0 .none := by
    have := Heap.get?_push_size (s.heap.push { cls := .type "tuple_iterator", data := .fields #[.ref l, .int 0 0] })
      (o := { cls := .type "enumerate", data := .fields #[.none, .bool false, .ref s.heap.objs.size, rawInt 0, .none, .none] }) rfl
    rw [hz] at this; exact this
  refine ⟨⟨_, he, rfl⟩, h _ he ⟨_, Heap.get?_push_of_some _ (Heap.get?_push_size _ rfl), rfl, rfl⟩ (by rw [Heap.size_push, hz]) fun b o x => Heap.get?_push_of_some _ (Heap.get?_push_of_some _ x)⟩
def IteT (K : PySem.W.Frag) (a : Addr) : It :=
  ⟨fun i H => ∃ (xs : List V) (x : V), SqT K H a xs ∧ xs[i]? = some x, fun i H v H' => ∃ T x, v = .ref T ∧ H T = none ∧ H' = upd H T (.tup [.int (i : Nat), x]) ∧ ∀ xs, SqT K H a xs → xs[i]? = some x, fun i H => ∃ xs : List V, SqT K H a xs ∧ xs.length ≤ i⟩
theorem turn_enumT {P : Program} {w : World} {K : PySem.W.Frag} {elts : List Expr} {kk : Nat} {tpos : Pos} (a e it : Addr) :
    Turn P w K (.Tuple elts kk tpos) (IteT K a) [e, it] e (fun i h => (∃ old, IsEnum h e it ((i : Nat) : Int) old) ∧ h.IsTupleIter it a i ∧ e ≠ it) where
  mem := by simp
  obj := fun i h st b hb => by
    obtain ⟨⟨old, he⟩, ⟨o, ho, hc, hd⟩, _⟩ := st
    have e' : b = e ∨ b = it := by simpa using hb
    rcases e' with z | z
    · rw [z]; exact ⟨_, he, fun v q => nomatch q⟩
    · rw [z]; exact ⟨o, ho, fun v q => by rw [hd] at q; cases q⟩
  keep := fun i h h' st k => let ⟨⟨old, he⟩, hi, hne⟩ := st; ⟨⟨old, k e (by simp) _ he⟩, hi.at fun o q => k it (by simp) o q, hne⟩
  item := by
    intro X hP hw hK hc i pins s σ H E I hf st hg
    subst hP hw hK
    obtain ⟨⟨old, he⟩, hit, hne⟩ := st
    obtain ⟨xs, x, hq, hx⟩ := hg
    obtain ⟨its, rv, p, hz⟩ := I.tuple hq
    obtain ⟨u, hu, ru⟩ := rv.get hx
    have hel : e < s.heap.objs.size := Heap.lt_size he
    have hil : it < s.heap.objs.size := by obtain ⟨_, q, _⟩ := hit; exact Heap.lt_size q
    have hat : its.toArray[i]? = some u := by simpa using hu
    have hne2 : a ≠ it := fun z => by
      obtain ⟨o1, q1, q2, _⟩ := hit
      obtain ⟨o2, w1, w2, _⟩ := show s.heap.IsTuple a its.toArray from p
      rw [z, q1] at w1
      cases w1
      rw [q2] at w2
      exact absurd (Value.type.inj w2) (by decide)
    have hne3 : e ≠ a := fun z => by
      obtain ⟨o2, w1, w2, _⟩ := show s.heap.IsTuple a its.toArray from p
      rw [← z] at w1
      have he' : s.heap.get? e = some _ := he
      rw [he'] at w1
      cases w1
      exact absurd (Value.type.inj w2) (by decide)
    have hn : i < its.toArray.size := (Array.getElem?_eq_some_iff.mp hat).1
    have hh : X.A.in1.handled = none := I.ok.hd hc
    refine wpAny_pyNext_enum_itemD (Draws.tuple hh it a hne2 its.toArray) he ⟨hit, p⟩ hn hne (by simp [hne, hne3]) fun y h' tk hy ho hst hT hsz hk => ?_
    rw [hat] at hy
    cases hy
    refine ⟨_, rfl, wpAny_letOwnedTupleGo_enum (s := { s with heap := h', toks := tk + 1 }) ho fun h'' he' sb => ?_⟩
    have hT2 : h''.get? s.heap.objs.size = some { cls := .type "tuple", data := .seq #[.int i tk, u] } := (sb.2 _ (Nat.ne_of_gt hel)).trans hT
    have new : ObjOk X.prog X.w (upd H s.heap.objs.size (.tup [.int (i : Nat), x])) h'' s.heap.objs.size (.tup [.int (i : Nat), x]) :=
      ⟨by show 2 ≤ sizeLine; decide, [.int i tk, u], .cons ⟨_, rfl⟩ (.cons ru .nil), ⟨_, hT2, rfl, _, rfl⟩⟩
    have I1 : Inv X pins σ (upd H s.heap.objs.size (.tup [.int (i : Nat), x])) { s with heap := h'', toks := tk + 1 } :=
      I.turnedNew (ch := [e, it]) (fun b ob hb q => (sb.2 b (fun z => hb (by simp [z]))).trans (hk b ob (fun z => hb (by simp [z])) (fun z => hb (by simp [z])) q)) hf (Nat.le_refl _) new
    refine ⟨.ref s.heap.objs.size, _, I1, rfl, ⟨_, x, rfl, I.hok.fresh (Nat.le_refl _), rfl, fun ys hy => by rw [I.tuple_inj hy hq]; exact hx⟩, ⟨⟨u, ?_⟩, hst.1.at fun o q => (sb.2 it (Ne.symm hne)).trans q, hne⟩, fun b hb => ?_⟩
    · have e1 : ((i + 1 : Nat) : Int) = (i : Int) + 1 := by omega
      rw [e1]; exact he'
    · have hb' : b < s.heap.objs.size := by
        have e' : b = e ∨ b = it := by simpa using hb
        rcases e' with z | z
        · rw [z]; exact hel
        · rw [z]; exact hil
      rw [upd_ne (Nat.ne_of_lt hb')]
      exact (hf b hb).1
  done := by
    intro X hP hw hK hc i pins s σ H E I hf st hg
    subst hP hw hK
    obtain ⟨⟨old, he⟩, hit, hne⟩ := st
    obtain ⟨xs, hq, hx⟩ := hg
    obtain ⟨its, rv, p, hz⟩ := I.tuple hq
    obtain ⟨f0, f1, f2, f3, f4, f5⟩ := hf it (by simp)
    have hl := rv.length
    have hh : X.A.in1.handled = none := I.ok.hd hc
    have hne2 : a ≠ it := fun z => by
      obtain ⟨o1, q1, q2, _⟩ := hit
      obtain ⟨o2, w1, w2, _⟩ := show s.heap.IsTuple a its.toArray from p
      rw [z, q1] at w1
      cases w1
      rw [q2] at w2
      exact absurd (Value.type.inj w2) (by decide)
    have hi : its.toArray[i]? = none := by simp; omega
    unfold pyNext
    have hT : s.TypeIs (.ref e) "enumerate" := ⟨_, he, rfl⟩
    refine wpAny_bind (wpAny_attempt (wpAny_callSpecial?_slot (name := Str.ofString "__next__") hT F.slot_enumerate_next
      (wpAny_call_entry F.slot_enumerate_next hT F.entry_enumerate_next ?_ (F.args_enumerate_next_1 _))))
    show wpAny _ _ (field (.ref e) 2 >>= _) _ _ _
    refine wpAny_bind (wpAny_field he rfl (x := .ref it) rfl ?_)
    refine wpAny_bind (wpAny_nextOf_tuple_end hh hit (show s.heap.IsTuple a its.toArray from p) hi fun h' x he' hx' => ?_)
    obtain ⟨o, ho, hc'⟩ := hx'
    refine wpAny_bind (wpAny_isInstance (T := "StopIteration") (b := true) ⟨o, ho, hc'⟩ isSubtype_stop ?_)
    exact wpAny_pure ⟨rfl, I.turned (t' := s.toks) (fun b o hb q => he' b o hb q) f0 f1 f3 f4 f5⟩
  self := fun A i s Q E st h => let ⟨⟨_, he⟩, _⟩ := st; wpAny_pyIter_enum he h
def iEnumA (K : PySem.W.Frag) (ta : TA) : TI := fun σ H R => ta σ H fun vs H1 => ∃ a xs, vs = [.ref a] ∧ ((SqL K H1 a xs ∧ R (Ite K a) H1) ∨ (SqT K H1 a xs ∧ R (IteT K a) H1))
theorem pi_enumA {X : Cx} {e : Expr} {ta : TA} {p pos tpos : Pos} {elts : List Expr} {kk : Nat} (hg : Gl X "enumerate") (hm : X.mg "enumerate" = none) (ha : PA X [e] ta) (hs : starEach [e] X.env = [(false, eval e X.env)] := by rfl) :
    PI X (.Tuple elts kk tpos) (.Call (.Name "enumerate" p) [e] [] pos) (iEnumA X.K ta) := by
  refine ⟨fun pins s σ H R I h => ?_⟩
  refine Call_ (ld_blt I hg hm boot_enumerate (PyProof.Rows.callWith_type1 (thn (ha.run pos pins s σ H _ I h) fun us s1 ⟨vs, H1, I1, r1, q1⟩ => ?_) hs rfl))
  obtain ⟨a, xs, ex, hq⟩ := q1
  subst ex
  cases r1 with
  | cons r rr =>
    cases rr
    cases r
    have fin : ∀ {h' : Heap}, ∀ b ∈ [s1.heap.objs.size + 1, s1.heap.objs.size], FpOk X pins H1 b := fun b hb => by
      have e' : b = s1.heap.objs.size + 1 ∨ b = s1.heap.objs.size := by simpa using hb
      have hle : s1.heap.objs.size ≤ b := by
        rcases e' with z | z
        · rw [z]; exact Nat.le_add_right _ _
        · rw [z]; exact Nat.le_refl _
      exact I1.fpOk hle (I1.hok.fresh hle)
    rcases hq with ⟨hq, q⟩ | ⟨hq, q⟩
    · obtain ⟨its, rv, p', hz⟩ := I1.list hq
      refine call_enumerate_list p'.isList fun h' he hit hsz hk => wpAny_pyIter_enum he ?_
      have I2 : Inv X pins σ H1 { s1 with heap := h' } := I1.kept (t' := s1.toks) hk
      exact ⟨s1.heap.objs.size + 1, [s1.heap.objs.size + 1, s1.heap.objs.size], _, _, H1, rfl, I2, turn_enum a (s1.heap.objs.size + 1) s1.heap.objs.size, ⟨⟨.none, he⟩, hit, Nat.succ_ne_self _⟩, fin (h' := h'), q⟩
    · obtain ⟨its, rv, p', hz⟩ := I1.tuple hq
      refine call_enumT (show s1.heap.IsTuple a its.toArray from p') fun h' he hit hsz hk => wpAny_pyIter_enum he ?_
      have I2 : Inv X pins σ H1 { s1 with heap := h' } := I1.kept (t' := s1.toks) hk
      exact ⟨s1.heap.objs.size + 1, [s1.heap.objs.size + 1, s1.heap.objs.size], _, _, H1, rfl, I2, turn_enumT a (s1.heap.objs.size + 1) s1.heap.objs.size, ⟨⟨.none, he⟩, hit, Nat.succ_ne_self _⟩, fin (h' := h'), q⟩
/-- the pairs of enumerate -/
def enumF (i : Nat) : List D → List D
  | [] => []
  | d :: l => .tup [.int (i : Nat), d] :: enumF (i + 1) l
theorem enumF_get : ∀ (l : List D) (i j : Nat) (d : D), (enumF i l)[j]? = some d → ∃ x, l[j]? = some x ∧ d = .tup [.int ((i + j : Nat) : Int), x]
  | [], _, _, _, h => by simp [enumF] at h
  | x :: l, i, 0, d, h => by
    simp [enumF] at h
    exact ⟨x, rfl, by rw [← h]; simp⟩
  | x :: l, i, j + 1, d, h => by
    simp only [enumF, List.getElem?_cons_succ] at h
    obtain ⟨y, h1, h2⟩ := enumF_get l (i + 1) j d h
    exact ⟨y, by simpa using h1, by rw [h2]; congr 4; omega⟩
theorem enumF_len : ∀ (l : List D) (i : Nat), (enumF i l).length = l.length
  | [], _ => rfl
  | _ :: l, i => by simp [enumF, enumF_len l]
/-- a new pair, laid -/
theorem pair_ok {K : PySem.W.Frag} {mg : Str → Option Value} {m : Hw} {st : Sto} {T : Addr} {x y : V} {d d' : D} (r : Rel K mg m st) (hT : m.h T = none) (h1 : Rep K mg m.r m.g d x) (h2 : Rep K mg m.r m.g d' y) :
    ∃ m2, m2.h = upd m.h T (.tup [x, y]) ∧ Ext m m2 ∧ Rel K mg m2 st ∧ Rep K mg m2.r m2.g (.tup [d, d']) (.ref T) :=
  ⟨m.lay T (.tup [x, y]), rfl, Ext.lay r hT, r.lay hT, .tup (.of upd_same) (.cons (h1.mono (Ext.lay r hT)) (.cons (h2.mono (Ext.lay r hT)) .nil))⟩
theorem ite_ok {K : PySem.W.Frag} {mg : Str → Option Value} {m : Hw} {a : Addr} {l : List D} {ck : Sto → Prop} (h : ∀ m1 st1, Ext m m1 → Rel K mg m1 st1 → ck st1 → ∃ vs, SqL K m1.h a vs ∧ Reps K mg m1.r m1.g l vs) : ItOk K mg m (Ite K a) (enumF 0 l) ck := by
  intro m1 st1 e1 r1 c1 i
  obtain ⟨vs, h1, h2⟩ := h m1 st1 e1 r1 c1
  refine ⟨fun hl => ⟨vs, h1, by rw [← h2.length]; rwa [enumF_len] at hl⟩, fun d hd => ?_⟩
  obtain ⟨x, hx, rfl⟩ := enumF_get _ _ _ _ hd
  obtain ⟨v, k1, k2⟩ := h2.get hx
  refine ⟨⟨vs, v, h1, k1⟩, fun y H' ⟨T, z, e2, hT, e3, hz⟩ => ?_⟩
  have := hz vs h1
  rw [k1] at this
  cases this
  subst e2
  rw [e3]
  exact pair_ok r1 hT (by simpa using .int _) k2
theorem itet_ok {K : PySem.W.Frag} {mg : Str → Option Value} {m : Hw} {a : Addr} {l : List D} {ck : Sto → Prop} (h : ∀ m1 st1, Ext m m1 → Rel K mg m1 st1 → ck st1 → ∃ vs, SqT K m1.h a vs ∧ Reps K mg m1.r m1.g l vs) : ItOk K mg m (IteT K a) (enumF 0 l) ck := by
  intro m1 st1 e1 r1 c1 i
  obtain ⟨vs, h1, h2⟩ := h m1 st1 e1 r1 c1
  refine ⟨fun hl => ⟨vs, h1, by rw [← h2.length]; rwa [enumF_len] at hl⟩, fun d hd => ?_⟩
  obtain ⟨x, hx, rfl⟩ := enumF_get _ _ _ _ hd
  obtain ⟨v, k1, k2⟩ := h2.get hx
  refine ⟨⟨vs, v, h1, k1⟩, fun y H' ⟨T, z, e2, hT, e3, hz⟩ => ?_⟩
  have := hz vs h1
  rw [k1] at this
  cases this
  subst e2
  rw [e3]
  exact pair_ok r1 hT (by simpa using .int _) k2
section
variable {X : Cx} {W : We} {tg iter e e2 a b c : Expr} {f : EF} {g : AF} {p pos tpos : Pos} {elts : List Expr} {kk : Nat}
@[simp] def iEnumD (g : AF) : IF := fun sg st => (g sg st).bind fun l st1 => match l with
  | [.lst l] => .ok ⟨enumF 0 l, fun _ => True⟩ st1
  | [.tup l] => .ok ⟨enumF 0 l, fun _ => True⟩ st1
  | [.loc n] => match st1[n]? with
    | some (.lst l) => .ok ⟨enumF 0 l, fun st => st[n]? = some (.lst l)⟩ st1
    | _ => .bad
  | _ => .bad
theorem si_enum (hg : Gl X "enumerate") (hm : X.mg "enumerate" = none) (ha : SA X W [e] g) (hs : starEach [e] X.env = [(false, eval e X.env)] := by rfl) : SI X W (.Tuple elts kk tpos) (.Call (.Name "enumerate" p) [e] [] pos) (iEnumD g) :=
  pi_weak (pi_enumA hg hm ha hs) fun σ H R ⟨m, sg, st, e, rm, rs, hp⟩ => ⟨m, sg, st, e, rm, rs, hp.bindc fun m1 l vs st1 e1 r1 q1 hp1 => by
    split at hp1
    · obtain ⟨v, rfl, hv⟩ := reps1 (X := X) q1
      cases hv with
      | lst h1 h2 => exact ⟨_, _, rfl, .inl ⟨.of (r1.sub _ _ h1), hp1.okc r1 (ite_ok fun m2 st2 e2 r2 _ => ⟨_, .of (r2.sub _ _ (e2.g _ _ h1)), h2.mono e2⟩)⟩⟩
    · obtain ⟨v, rfl, hv⟩ := reps1 (X := X) q1
      cases hv with
      | tup h1 h2 => exact ⟨_, _, rfl, .inr ⟨sqT_mono r1.sub h1, hp1.okc r1 (itet_ok fun m2 st2 e2 r2 _ => ⟨_, sqT_mono r2.sub (sqT_mono e2.g h1), h2.mono e2⟩)⟩⟩
    · obtain ⟨v, rfl, hv⟩ := reps1 (X := X) q1
      cases hv with
      | loc h1 =>
        split at hp1
        · rename_i l hl
          obtain ⟨vs, k1, k2⟩ := r1.obj _ _ _ h1 hl
          refine ⟨_, _, rfl, .inl ⟨.of k1, hp1.okc r1 (ite_ok fun m2 st2 e2 r2 hc => ?_)⟩⟩
          obtain ⟨ws, k3, k4⟩ := r2.obj _ _ _ (e2.at_ h1) hc
          exact ⟨ws, .of k3, k4⟩
        · exact False.elim hp1
    · exact False.elim hp1⟩
end
end Sh
/-! Part U: lists and tuples made of others, slices, stars, all, any, methods of texts. -/
namespace Sh
open PySem L2
/-! the items of a list -/
def lstOf : D → Sto → Option (List D)
  | .lst l, _ => some l
  | .scr l, _ => some (l.map .int)
  | .loc n, st => match st[n]? with
    | some (.lst l) => some l
    | _ => none
  | _, _ => none
theorem lst_of {X : Cx} {m : Hw} {st : Sto} {x : D} {v : V} {l : List D} (rm : Rel X.K X.mg m st) (h : Rep X.K X.mg m.r m.g x v) (e : lstOf x st = some l) : ∃ p vs, v = .ref p ∧ SqL X.K m.h p vs ∧ Reps X.K X.mg m.r m.g l vs := by
  unfold lstOf at e
  split at e
  · cases e; cases h with
    | lst h1 h2 => exact ⟨_, _, rfl, .of (rm.sub _ _ h1), h2⟩
  · cases e; cases h with
    | scr h1 => exact ⟨_, _, rfl, sqL_mono rm.sub h1, reps_ints _⟩
  · cases h with
    | loc h1 =>
      split at e
      · rename_i h2
        cases e
        obtain ⟨vs, h3, h4⟩ := rm.obj _ _ _ h1 h2
        exact ⟨_, _, rfl, .of h3, h4⟩
      · cases e
  · cases e
/-! all, any of a list of truths -/
def blsOf : List D → Option (List Bool)
  | [] => some []
  | .bl b :: l => (blsOf l).map (b :: ·)
  | _ => none
theorem bls_rep {X : Cx} {m : Hw} : ∀ {l : List D} {vs : List V} {bs : List Bool}, Reps X.K X.mg m.r m.g l vs → blsOf l = some bs → vs = bs.map V.bl
  | [], _, bs, h, e => by cases h; cases e; rfl
  | .bl b :: l, _, bs, h, e => by
    cases h with
    | cons h1 h2 =>
      cases h1
      unfold blsOf at e
      obtain ⟨bs', e1, rfl⟩ := Option.map_eq_some_iff.mp e
      rw [bls_rep h2 e1]
      rfl
  | .non :: _, _, _, _, e => by simp [blsOf] at e
  | .int _ :: _, _, _, _, e => by simp [blsOf] at e
  | .str _ :: _, _, _, _, e => by simp [blsOf] at e
  | .tup _ :: _, _, _, _, e => by simp [blsOf] at e
  | .lst _ :: _, _, _, _, e => by simp [blsOf] at e
  | .ins _ _ :: _, _, _, _, e => by simp [blsOf] at e
  | .loc _ :: _, _, _, _, e => by simp [blsOf] at e
  | .scr _ :: _, _, _, _, e => by simp [blsOf] at e
  | .edict :: _, _, _, _, e => by simp [blsOf] at e
@[simp] theorem blsOf_map (bs : List Bool) : blsOf (bs.map D.bl) = some bs := by
  induction bs with
  | nil => rfl
  | cons b bs ih => simp [blsOf, ih]
def bAll : List D → Sto → Res D
  | [x], st => match (lstOf x st).bind blsOf with
    | some bs => .ok (.bl (bs.all id)) st
    | none => .bad
  | _, _ => .bad
def bAny : List D → Sto → Res D
  | [x], st => match (lstOf x st).bind blsOf with
    | some bs => .ok (.bl (bs.any id)) st
    | none => .bad
  | _, _ => .bad
section
variable {X : Cx} {W : We} {tg iter e e2 a b c o : Expr} {f fo : EF} {g : AF} {p pos tpos : Pos} {es : List Expr}
theorem fits_all : FitsL X W (rAll X.K) bAll := by
  intro m st σ l vs Q rm ra hp
  unfold bAll at hp
  split at hp
  · obtain ⟨v, rfl, hv⟩ := reps1 ra
    split at hp
    · rename_i bs h
      obtain ⟨l, h1, h2⟩ := Option.bind_eq_some_iff.mp h
      obtain ⟨q, ws, rfl, k1, k2⟩ := lst_of rm hv h1
      exact ⟨_, bs, rfl, by rw [← bls_rep k2 h2]; exact k1, hp.okc rm (.bl _)⟩
    · exact False.elim hp
  · exact False.elim hp
theorem fits_any : FitsL X W (rAny X.K) bAny := by
  intro m st σ l vs Q rm ra hp
  unfold bAny at hp
  split at hp
  · obtain ⟨v, rfl, hv⟩ := reps1 ra
    split at hp
    · rename_i bs h
      obtain ⟨l, h1, h2⟩ := Option.bind_eq_some_iff.mp h
      obtain ⟨q, ws, rfl, k1, k2⟩ := lst_of rm hv h1
      exact ⟨_, bs, rfl, by rw [← bls_rep k2 h2]; exact k1, hp.okc rm (.bl _)⟩
    · exact False.elim hp
  · exact False.elim hp
/-! tuple(x), list(x) -/
def bTuple : List D → Sto → Res D
  | [.tup l], st => .ok (.tup l) st
  | [x], st => match lstOf x st with
    | some l => .ok (.tup l) st
    | none => .bad
  | _, _ => .bad
theorem post_laid {α : Type} {m : Hw} {st : Sto} {σ : St} {Q : VK} {d : D} {o : HO} (hp : Post X.K X.mg W.w m σ (RD X.K X.mg) Q (.ok d st)) (rm : Rel X.K X.mg m st) (hr : ∀ p, m.h p = none → Rep X.K X.mg (m.lay p o).r (m.lay p o).g d (.ref p)) : ∀ p, m.h p = none → Q (.ref p) (upd m.h p o) := hp.lay (α := D) rm hr
theorem fits_tuple : FitsL X W (fun xs H Q => ∃ p ys, xs = [.ref p] ∧ ((SqL X.K H p ys ∧ ∀ l, H l = none → Q (.ref l) (upd H l (.tup ys))) ∨ (SqT X.K H p ys ∧ Q (.ref p) H))) bTuple := by
  intro m st σ l vs Q rm ra hp
  unfold bTuple at hp
  split at hp
  · obtain ⟨v, rfl, hv⟩ := reps1 ra
    cases hv with
    | tup h1 h2 => exact ⟨_, _, rfl, .inr ⟨sqT_mono rm.sub h1, hp.okc rm (.tup h1 h2)⟩⟩
  · obtain ⟨v, rfl, hv⟩ := reps1 ra
    split at hp
    · rename_i l h
      obtain ⟨q, ws, rfl, k1, k2⟩ := lst_of rm hv h
      exact ⟨_, ws, rfl, .inl ⟨k1, hp.lay (α := D) rm fun p hn => .tup (.of upd_same) (k2.mono (Ext.lay rm hn))⟩⟩
    · exact False.elim hp
  · exact False.elim hp
def bList : List D → Sto → Res D
  | [x], st => match itemsOf x st with
    | some l => .ok (.lst l) st
    | none => .bad
  | _, _ => .bad
def bListN : List D → Sto → Res D
  | [x], st => match itemsOf x st with
    | some l => .ok (.loc st.length) (st ++ [.lst l])
    | none => .bad
  | _, _ => .bad
/-- a new thing of the store -/
theorem post_new {m : Hw} {st : Sto} {σ : St} {Q : VK} {l : List D} {vs : List V} (hp : Post X.K X.mg W.w m σ (RD X.K X.mg) Q (.ok (.loc st.length) (st ++ [.lst l]))) (rm : Rel X.K X.mg m st) (k : Reps X.K X.mg m.r m.g l vs) : ∀ p, m.h p = none → Q (.ref p) (upd m.h p (.lst vs)) := fun p hn => by
  refine hp (m.new p (.lst vs)) (.ref p) (Ext.new rm hn) (rm.new hn ⟨vs, upd_same, k.mono (Ext.new (o := .lst vs) rm hn)⟩) (.loc ?_)
  show (m.r ++ [p])[st.length]? = some p
  rw [← rm.len, List.getElem?_append_right (Nat.le_refl _)]
  simp
theorem fits_list : FitsL X W (fun xs H Q => ∃ p ys, xs = [.ref p] ∧ (SqL X.K H p ys ∨ SqT X.K H p ys) ∧ ∀ l, H l = none → Q (.ref l) (upd H l (.lst ys))) bList := by
  intro m st σ l vs Q rm ra hp
  unfold bList at hp
  split at hp
  · obtain ⟨v, rfl, hv⟩ := reps1 ra
    split at hp
    · rename_i l h
      obtain ⟨q, ws, rfl, k1, k2⟩ := items_of rm hv h
      exact ⟨_, ws, rfl, k1, hp.lay (α := D) rm fun p hn => .lst upd_same (k2.mono (Ext.lay rm hn))⟩
    · exact False.elim hp
  · exact False.elim hp
theorem fits_listN : FitsL X W (fun xs H Q => ∃ p ys, xs = [.ref p] ∧ (SqL X.K H p ys ∨ SqT X.K H p ys) ∧ ∀ l, H l = none → Q (.ref l) (upd H l (.lst ys))) bListN := by
  intro m st σ l vs Q rm ra hp
  unfold bListN at hp
  split at hp
  · obtain ⟨v, rfl, hv⟩ := reps1 ra
    split at hp
    · rename_i l h
      obtain ⟨q, ws, rfl, k1, k2⟩ := items_of rm hv h
      exact ⟨_, ws, rfl, k1, post_new hp rm k2⟩
    · exact False.elim hp
  · exact False.elim hp
/-! slices -/
def cutD (l : List D) (lo hi : Option Int) : List D := (l.drop (HT.sIx l.length 0 lo)).take (HT.sIx l.length l.length hi - HT.sIx l.length 0 lo)
theorem cut_rep {K : PySem.W.Frag} {mg : Str → Option Value} {r : List Addr} {G : Hp} {l : List D} {vs : List V} (h : Reps K mg r G l vs) (lo hi : Option Int) : Reps K mg r G (cutD l lo hi) (cutV vs lo hi) := by
  unfold cutD cutV
  rw [h.length]
  exact (h.drop _).take _
theorem cut_all {l : List D} {lo hi : Option Int} (h : HT.sIx l.length 0 lo = 0 ∧ HT.sIx l.length l.length hi = l.length) : cutD l lo hi = l := by
  unfold cutD
  rw [h.1, h.2]
  simp
def dSl (x : D) (lo hi : Option Int) (st : Sto) : Res D := match x with
  | .str z => if z.length ≤ 16777216 then .ok (.str (cutS z lo hi)) st else .bad
  | .tup l => .ok (.tup (cutD l lo hi)) st
  | x => match lstOf x st with
    | some l => .ok (.lst (cutD l lo hi)) st
    | none => .bad
def dSlN (x : D) (lo hi : Option Int) (st : Sto) : Res D := match lstOf x st with
  | some l => .ok (.loc st.length) (st ++ [.lst (cutD l lo hi)])
  | none => .bad
abbrev OF := Sg → Sto → Res (Option Int)
def SO' (X : Cx) (W : We) (e : Option Expr) (f : OF) : Prop := PO X e (TOf X.K X.mg W (fun _ a b => a = b) f)
theorem po_weak {X : Cx} {e : Option Expr} {t t' : TO} (h : PO X e t) (i : ∀ σ H Q, t' σ H Q → t σ H Q) : PO X e t' := ⟨fun pins s σ H Q I q => h.run pins s σ H Q I (i σ H Q q)⟩
@[simp] def oNone : OF := fun _ st => .ok none st
@[simp] def oSome (f : EF) : OF := fun sg st => (f sg st).bind fun x st1 => match x with
  | .int i => .ok (some i) st1
  | _ => .bad
theorem so_none : SO' X W none oNone := po_weak po_none fun σ H Q ⟨m, sg, st, e, rm, rs, hp⟩ => by
  subst e; exact hp.okc rm rfl
theorem so_some (h : SE X W e f) : SO' X W (some e) (oSome f) := po_weak (po_some h) fun σ H Q ⟨m, sg, st, em, rm, rs, hp⟩ => ⟨m, sg, st, em, rm, rs, hp.bindc fun m1 x v st1 e1 r1 q1 hp1 => by
  split at hp1
  · cases q1; exact ⟨_, rfl, hp1.okc r1 rfl⟩
  · exact False.elim hp1⟩
@[simp] def fSl (sem : D → Option Int → Option Int → Sto → Res D) (f : EF) (lo hi : OF) : EF := fun sg st => (f sg st).bind fun x st1 => (lo sg st1).bind fun i st2 => (hi sg st2).bind fun j st3 => sem x i j st3
abbrev rSlAll (K : PySem.W.Frag) : V → Option Int → Option Int → Hp → VK → Prop := fun x lo hi H Q => rSlL K x lo hi H Q ∨ (rSlA K x lo hi H Q ∨ rSlS x lo hi H Q)
theorem sl_all : SlR X (rSlAll X.K) := sl_list.or (sl_tupA.or sl_str)
variable {lo hi : Option Expr} {flo fhi : OF} {p2 : Pos}
theorem slice_of {sem : D → Option Int → Option Int → Sto → Res D} (hs : ∀ (m : Hw) (st : Sto) (σ : St) (x : D) (v : V) (i j : Option Int) (Q : VK), Rel X.K X.mg m st → Rep X.K X.mg m.r m.g x v → Post X.K X.mg W.w m σ (RD X.K X.mg) Q (sem x i j st) → rSlAll X.K v i j m.h Q)
    (he : SE X W e f) (hl : SO' X W lo flo) (hh : SO' X W hi fhi) : SE X W (.Subscript e (.Slice lo hi none p2) pos) (fSl sem f flo fhi) :=
  pe_weak (pe_slice sl_all he hl hh) fun σ H Q ⟨m, sg, st, em, rm, rs, hp⟩ => ⟨m, sg, st, em, rm, rs, hp.bindc fun m1 x v st1 e1 r1 q1 hp1 => ⟨m1, sg, st1, rfl, r1, rs.mono e1, hp1.bindc fun m2 i i' st2 e2 r2 q2 hp2 => by
    subst q2
    exact ⟨m2, sg, st2, rfl, r2, (rs.mono e1).mono e2, hp2.bindc fun m3 j j' st3 e3 r3 q3 hp3 => by
      subst q3
      exact hs m3 st3 σ x v i j Q r3 ((q1.mono e2).mono e3) hp3⟩⟩⟩
theorem se_sl (he : SE X W e f) (hl : SO' X W lo flo) (hh : SO' X W hi fhi) : SE X W (.Subscript e (.Slice lo hi none p2) pos) (fSl dSl f flo fhi) :=
  slice_of (fun m st σ x v i j Q rm q hp => by
    unfold dSl at hp
    split at hp
    · cases q
      split at hp
      · rename_i hz
        exact .inr (.inr ⟨_, rfl, le_line.mp hz, hp.okc rm (.str _)⟩)
      · exact False.elim hp
    · cases q with
      | tup h1 h2 =>
        refine .inr (.inl ⟨_, _, rfl, sqT_mono rm.sub h1, fun hw => ?_, fun _ => hp.lay (α := D) rm fun p hn => .tup (.of upd_same) (cut_rep (h2.mono (Ext.lay rm hn)) i j)⟩)
        rw [← h2.length] at hw
        rw [cut_all hw] at hp
        exact hp.okc rm (.tup h1 h2)
    · split at hp
      · rename_i l h
        obtain ⟨a, ws, rfl, k1, k2⟩ := lst_of rm q h
        exact .inl ⟨_, _, rfl, k1, hp.lay (α := D) rm fun p hn => .lst upd_same (cut_rep (k2.mono (Ext.lay rm hn)) i j)⟩
      · exact False.elim hp) he hl hh
theorem se_slN (he : SE X W e f) (hl : SO' X W lo flo) (hh : SO' X W hi fhi) : SE X W (.Subscript e (.Slice lo hi none p2) pos) (fSl dSlN f flo fhi) :=
  slice_of (fun m st σ x v i j Q rm q hp => by
    unfold dSlN at hp
    split at hp
    · rename_i l h
      obtain ⟨a, ws, rfl, k1, k2⟩ := lst_of rm q h
      exact .inl ⟨_, _, rfl, k1, post_new hp rm (cut_rep k2 i j)⟩
    · exact False.elim hp) he hl hh
/-! xs[::-1] -/
@[simp] def fRev (f : EF) : EF := fun sg st => (f sg st).bind fun x st1 => match lstOf x st1 with
  | some l => .ok (.lst l.reverse) st1
  | none => .bad
theorem rev_rep {K : PySem.W.Frag} {mg : Str → Option Value} {r : List Addr} {G : Hp} : ∀ {l : List D} {vs : List V}, Reps K mg r G l vs → Reps K mg r G l.reverse vs.reverse
  | [], _, h => by cases h; exact .nil
  | x :: l, _, h => by
    cases h with
    | cons h1 h2 => simpa using (rev_rep h2).append (.one h1)
theorem se_rev {k : Nat} {p1 p3 : Pos} (he : SE X W e f) : SE X W (.Subscript e (.Slice none none (some (.UnaryOp .USub (.Constant (.int 1) k p1) p2)) p3) pos) (fRev f) :=
  pe_weak (pe_revL he) fun σ H Q ⟨m, sg, st, em, rm, rs, hp⟩ => ⟨m, sg, st, em, rm, rs, hp.bindc fun m1 x v st1 e1 r1 q1 hp1 => by
    split at hp1
    · rename_i l h
      obtain ⟨a, ws, rfl, k1, k2⟩ := lst_of r1 q1 h
      exact ⟨_, _, rfl, k1, hp1.lay (α := D) r1 fun p hn => .lst upd_same (rev_rep (k2.mono (Ext.lay r1 hn)))⟩
    · exact False.elim hp1⟩
/-! stars in displays -/
@[simp] def aStar (f : EF) (g : AF) : AF := fun sg st => (f sg st).bind fun x st1 => match itemsOf x st1 with
  | some l => (g sg st1).bind fun r st2 => .ok (l ++ r) st2
  | none => .bad
theorem sa_star (he : SE X W e f) (hr : SA X W es g) (hs : starEach (.Starred e p :: es) X.env = (true, eval e X.env) :: starEach es X.env := by rfl) : SA X W (.Starred e p :: es) (aStar f g) :=
  pa_weak (StX.pa_star he hr hs) fun σ H Q ⟨m, sg, st, em, rm, rs, hp⟩ => ⟨m, sg, st, em, rm, rs, hp.bindc fun m1 x v st1 e1 r1 q1 hp1 => by
    split at hp1
    · rename_i l h
      obtain ⟨a, ws, rfl, k1, k2⟩ := items_of r1 q1 h
      exact ⟨a, ws, rfl, k1.symm, m1, sg, st1, rfl, r1, rs.mono e1, hp1.bindc fun m2 r vs st2 e2 r2 q2 hp2 => hp2.okc r2 ((k2.mono e2).append q2)⟩
    · exact False.elim hp1⟩
/-! xs * k -/
def dRep : D → D → Sto → Res D
  | .lst l, .int k, st => if 0 ≤ k ∧ k < 2 ^ 62 ∧ l.length * k.toNat ≤ 16777216 then .ok (.lst (List.replicate k.toNat l).flatten) st else .bad
  | .tup l, .int k, st => if l ≠ [] ∧ 2 ≤ k ∧ k ≤ 1000 ∧ l.length ≤ 1000 then .ok (.tup (List.replicate k.toNat l).flatten) st else .bad
  | _, _, _ => .bad
theorem rep_rep {K : PySem.W.Frag} {mg : Str → Option Value} {r : List Addr} {G : Hp} {l : List D} {vs : List V} (h : Reps K mg r G l vs) : ∀ n : Nat, Reps K mg r G (List.replicate n l).flatten (List.replicate n vs).flatten
  | 0 => .nil
  | n + 1 => by
    rw [List.replicate_succ, List.replicate_succ, List.flatten_cons, List.flatten_cons]
    exact h.append (rep_rep h n)
theorem fits_rep : Fits2 X W (fun x y H Q => rRep x y H Q ∨ rRepT X.K x y H Q) dRep := by
  intro m st σ x y v w Q rm ra rb hp
  unfold dRep at hp
  split at hp
  · split at hp
    · rename_i h
      cases ra with
      | lst h1 h2 =>
        cases rb
        exact .inl ⟨_, _, _, rfl, rfl, rm.sub _ _ h1, by omega, by omega, by rw [← h2.length]; exact le_line.mp h.2.2, hp.lay (α := D) rm fun p hn => .lst upd_same (rep_rep (h2.mono (Ext.lay rm hn)) _)⟩
    · exact False.elim hp
  · split at hp
    · rename_i h
      cases ra with
      | tup h1 h2 =>
        cases rb
        refine .inr ⟨_, _, _, rfl, rfl, sqT_mono rm.sub h1, ?_, h.2.1, h.2.2.1, by rw [← h2.length]; exact h.2.2.2, hp.lay (α := D) rm fun p hn => .tup (.of upd_same) (rep_rep (h2.mono (Ext.lay rm hn)) _)⟩
        intro z
        subst z
        cases h2
        exact h.1 rfl
    · exact False.elim hp
  · exact False.elim hp
/-! a sign in a text -/
def dInS (neg : Bool) : D → D → Sto → Res D
  | .str x, .str z, st => match x.cps.toList with
    | [c] => .ok (.bl (if neg then !decide (c ∈ z.cps.toList) else decide (c ∈ z.cps.toList))) st
    | _ => .bad
  | _, _, _ => .bad
theorem fits_inS : Fits2 X W (fun x y H Q => ∃ (c : Nat) (z : Str), x = .str ⟨#[c]⟩ ∧ y = .str z ∧ Q (.bl (decide (c ∈ z.cps.toList))) H) (dInS false) := by
  intro m st σ x y v w Q rm ra rb hp
  cases ra with
  | str x =>
    cases rb with
    | str z =>
      unfold dInS at hp
      dsimp only at hp
      split at hp
      · rename_i c hc
        have e : x = ⟨#[c]⟩ := by
          cases x with
          | mk cps =>
            have : cps = #[c] := Array.toList_inj.mp hc
            rw [this]
        subst e
        exact ⟨c, _, rfl, rfl, hp.okc rm (.bl _)⟩
      · exact False.elim hp
    | _ => exact False.elim hp
  | _ => exact False.elim hp
/-! methods of texts -/
def strsOf : List D → Option (List Str)
  | [] => some []
  | .str b :: l => (strsOf l).map (b :: ·)
  | _ => none
theorem strs_rep {m : Hw} : ∀ {l : List D} {vs : List V} {bs : List Str}, Reps X.K X.mg m.r m.g l vs → strsOf l = some bs → vs = bs.map V.str
  | [], _, bs, h, e => by cases h; cases e; rfl
  | .str b :: l, _, bs, h, e => by
    cases h with
    | cons h1 h2 =>
      cases h1
      unfold strsOf at e
      obtain ⟨bs', e1, rfl⟩ := Option.map_eq_some_iff.mp e
      rw [strs_rep h2 e1]
      rfl
  | .non :: _, _, _, _, e => by simp [strsOf] at e
  | .int _ :: _, _, _, _, e => by simp [strsOf] at e
  | .bl _ :: _, _, _, _, e => by simp [strsOf] at e
  | .tup _ :: _, _, _, _, e => by simp [strsOf] at e
  | .lst _ :: _, _, _, _, e => by simp [strsOf] at e
  | .ins _ _ :: _, _, _, _, e => by simp [strsOf] at e
  | .loc _ :: _, _, _, _, e => by simp [strsOf] at e
  | .scr _ :: _, _, _, _, e => by simp [strsOf] at e
  | .edict :: _, _, _, _, e => by simp [strsOf] at e
@[simp] theorem strsOf_map (bs : List Str) : strsOf (bs.map D.str) = some bs := by
  induction bs with
  | nil => rfl
  | cons b bs ih => simp [strsOf, ih]
theorem reps_strs {K : PySem.W.Frag} {mg : Str → Option Value} {r : List Addr} {G : Hp} : ∀ ys : List Str, Reps K mg r G (ys.map D.str) (ys.map V.str)
  | [] => .nil
  | y :: ys => .cons (.str y) (reps_strs ys)
def mJoin (x : D) (l : List D) (st : Sto) : Res D := match x, l with
  | .str a, [y] => match (itemsOf y st).bind strsOf with
    | some ys => if (ys.map (·.length)).sum + ys.length * a.length ≤ 16777216 then .ok (.str (Txt.join a ys)) st else .bad
    | none => .bad
  | _, _ => .bad
theorem fits_join : FitsM X W (fun x xs H Q => ∃ a p, ∃ ys : List Str, x = .str a ∧ xs = [.ref p] ∧ (SqL X.K H p (ys.map V.str) ∨ SqT X.K H p (ys.map V.str)) ∧ (ys.map (·.length)).sum + ys.length * a.length ≤ 16777216 ∧ Q (.str (Txt.join a ys)) H) mJoin := by
  intro m st σ x v l vs Q rm q ql hp
  unfold mJoin at hp
  split at hp
  · split at hp
    · rename_i ys h
      split at hp
      · rename_i hz
        obtain ⟨l, h1, h2⟩ := Option.bind_eq_some_iff.mp h
        obtain ⟨w, rfl, hw⟩ := reps1 ql
        obtain ⟨p, ws, rfl, k1, k2⟩ := items_of rm hw h1
        cases q
        rw [strs_rep k2 h2] at k1
        exact ⟨_, p, ys, rfl, rfl, k1, hz, hp.okc rm (.str _)⟩
      · exact False.elim hp
    · exact False.elim hp
  · exact False.elim hp
def mSplit (x : D) (l : List D) (st : Sto) : Res D := match x, l with
  | .str a, [.str b] => if (b.length == 0) = false ∧ a.length + 2 ≤ 16777216 then .ok (.lst ((Txt.split a b).map .str)) st else .bad
  | _, _ => .bad
def mSplitN (x : D) (l : List D) (st : Sto) : Res D := match x, l with
  | .str a, [.str b] => if (b.length == 0) = false ∧ a.length + 2 ≤ 16777216 then .ok (.loc st.length) (st ++ [.lst ((Txt.split a b).map .str)]) else .bad
  | _, _ => .bad
theorem fits_split : FitsM X W (fun x xs H Q => ∃ a b, x = .str a ∧ xs = [.str b] ∧ (b.length == 0) = false ∧ a.length + 2 ≤ sizeLine ∧ rNewStrs (Txt.split a b) H Q) mSplit := by
  intro m st σ x v l vs Q rm q ql hp
  unfold mSplit at hp
  split at hp
  · split at hp
    · rename_i h
      obtain ⟨w, rfl, hw⟩ := reps1 ql
      cases q; cases hw
      exact ⟨_, _, rfl, rfl, h.1, le_line.mp h.2, hp.lay (α := D) rm fun p hn => .lst upd_same (reps_strs _)⟩
    · exact False.elim hp
  · exact False.elim hp
theorem fits_splitN : FitsM X W (fun x xs H Q => ∃ a b, x = .str a ∧ xs = [.str b] ∧ (b.length == 0) = false ∧ a.length + 2 ≤ sizeLine ∧ rNewStrs (Txt.split a b) H Q) mSplitN := by
  intro m st σ x v l vs Q rm q ql hp
  unfold mSplitN at hp
  split at hp
  · split at hp
    · rename_i h
      obtain ⟨w, rfl, hw⟩ := reps1 ql
      cases q; cases hw
      exact ⟨_, _, rfl, rfl, h.1, le_line.mp h.2, post_new hp rm (reps_strs _)⟩
    · exact False.elim hp
  · exact False.elim hp
def mPart (x : D) (l : List D) (st : Sto) : Res D := match x, l with
  | .str a, [.str b] => if (b.length == 0) = false ∧ a.length ≤ 16777216 then .ok (.tup [.str (Txt.partition a b).1, .str (Txt.partition a b).2.1, .str (Txt.partition a b).2.2]) st else .bad
  | _, _ => .bad
theorem fits_part : FitsM X W (fun x xs H Q => ∃ a b, x = .str a ∧ xs = [.str b] ∧ (b.length == 0) = false ∧ a.length ≤ sizeLine ∧
    ∀ p, H p = none → Q (.ref p) (upd H p (.tup [.str (Txt.partition a b).1, .str (Txt.partition a b).2.1, .str (Txt.partition a b).2.2]))) mPart := by
  intro m st σ x v l vs Q rm q ql hp
  unfold mPart at hp
  split at hp
  · split at hp
    · rename_i h
      obtain ⟨w, rfl, hw⟩ := reps1 ql
      cases q; cases hw
      exact ⟨_, _, rfl, rfl, h.1, le_line.mp h.2, hp.lay (α := D) rm fun p hn => .tup (.of upd_same) (.cons (.str _) (.cons (.str _) (.cons (.str _) .nil)))⟩
    · exact False.elim hp
  · exact False.elim hp
def mS2B (g : Str → Str → Bool) (x : D) (l : List D) (st : Sto) : Res D := match x, l with
  | .str a, [.str b] => .ok (.bl (g a b)) st
  | _, _ => .bad
theorem fits_s2b {g : Str → Str → Bool} : FitsM X W (fun x xs H Q => ∃ a b, x = .str a ∧ xs = [.str b] ∧ Q (.bl (g a b)) H) (mS2B g) := by
  intro m st σ x v l vs Q rm q ql hp
  unfold mS2B at hp
  split at hp
  · obtain ⟨w, rfl, hw⟩ := reps1 ql
    cases q; cases hw
    exact ⟨_, _, rfl, rfl, hp.okc rm (.bl _)⟩
  · exact False.elim hp
def mS2I (g : Str → Str → Int) (x : D) (l : List D) (st : Sto) : Res D := match x, l with
  | .str a, [.str b] => .ok (.int (g a b)) st
  | _, _ => .bad
theorem fits_s2i {g : Str → Str → Int} : FitsM X W (fun x xs H Q => ∃ a b, x = .str a ∧ xs = [.str b] ∧ Q (.int (g a b)) H) (mS2I g) := by
  intro m st σ x v l vs Q rm q ql hp
  unfold mS2I at hp
  split at hp
  · obtain ⟨w, rfl, hw⟩ := reps1 ql
    cases q; cases hw
    exact ⟨_, _, rfl, rfl, hp.okc rm (.int _)⟩
  · exact False.elim hp
def mDigit (x : D) (l : List D) (st : Sto) : Res D := match x, l with
  | .str a, [] => .ok (.bl (Txt.isdigit a)) st
  | _, _ => .bad
theorem fits_digit : FitsM X W (fun x xs H Q => ∃ a, x = .str a ∧ xs = [] ∧ True ∧ Q (.bl (Txt.isdigit a)) H) mDigit := by
  intro m st σ x v l vs Q rm q ql hp
  unfold mDigit at hp
  split at hp
  · cases q; cases ql
    exact ⟨_, rfl, rfl, trivial, hp.okc rm (.bl _)⟩
  · exact False.elim hp
/-! int(text), too -/
def bIntS : List D → Sto → Res D
  | [.int i], st => .ok (.int i) st
  | [.bl b], st => .ok (.int (if b then 1 else 0)) st
  | [.str a], st => match PySem.intText? a with
    | some n => if a.length ≤ 640 then .ok (.int n) st else .bad
    | none => .bad
  | _, _ => .bad
abbrev rIntA : List V → Hp → VK → Prop := fun xs H Q => ((∃ i, xs = [.int i] ∧ Q (.int i) H) ∨ ∃ k, xs = [.bl k] ∧ Q (.int (if k then 1 else 0)) H) ∨ ∃ a n, xs = [.str a] ∧ PySem.intText? a = some n ∧ a.length ≤ 640 ∧ Q (.int n) H
theorem call_intA : CallR X (.type "int") rIntA := call_int1.or call_int_str
theorem fits_intS : FitsL X W rIntA bIntS := by
  intro m st σ l vs Q rm ra hp
  unfold bIntS at hp
  split at hp
  · obtain ⟨v, rfl, hv⟩ := reps1 ra
    cases hv
    exact .inl (.inl ⟨_, rfl, hp.okc rm (.int _)⟩)
  · obtain ⟨v, rfl, hv⟩ := reps1 ra
    cases hv
    exact .inl (.inr ⟨_, rfl, hp.okc rm (.int _)⟩)
  · obtain ⟨v, rfl, hv⟩ := reps1 ra
    cases hv
    split at hp
    · rename_i n hn
      split at hp
      · rename_i hz
        exact .inr ⟨_, n, rfl, hn, hz, hp.okc rm (.int _)⟩
      · exact False.elim hp
    · exact False.elim hp
  · exact False.elim hp
end
end Sh
/-! Part V: constants of the module, defaults that are (), defs that call themselves. -/
namespace Sh
open PySem L2 He
section
variable {X : Cx} {W : We} {x : Str} {p : Pos}
theorem se_gint {i : Int} (hg : Gl X x) (hm : ∃ t, X.mg x = some (.int i t)) (hdb : (x == ("__debug__" : Str)) = false := by decide) : SE X W (.Name x p) (fC (.int i)) := by
  obtain ⟨t, h⟩ := hm
  exact se_c (pe_glob (v := .int i) hg h ⟨t, rfl⟩ hdb) fun _ _ _ => .int i
theorem se_gstr {i : Str} (hg : Gl X x) (hm : ∃ t, X.mg x = some (.str i t)) (hdb : (x == ("__debug__" : Str)) = false := by decide) : SE X W (.Name x p) (fC (.str i)) := by
  obtain ⟨t, h⟩ := hm
  exact se_c (pe_glob (v := .str i) hg h ⟨t, rfl⟩ hdb) fun _ _ _ => .str i
theorem se_gtup {l : List D} {ds : List Dv} (hg : Gl X x) (hm : X.mg x = some (.ref (ga X.K x))) (h : tupB X.K x ds = true) (hl : ∀ r G, Reps X.K X.mg r G l (ds.map (Dv.v X.K))) (hdb : (x == ("__debug__" : Str)) = false := by decide) : SE X W (.Name x p) (fC (.tup l)) :=
  se_c (pe_glob (v := .ref (ga X.K x)) hg hm rfl hdb) fun m st rm => .tup (tupB_ok h m.g) (hl m.r m.g)
end
/-! a default that is () -/
def nilB (a : PySem.W.Frag → Addr) (K : PySem.W.Frag) : Bool := match K.lookup (a K) with
  | some ⟨.type c, _, .seq its _, _⟩ => decide (c = "tuple") && decide (its.size = 0)
  | _ => false
theorem nil_ok {K : PySem.W.Frag} {mg : Str → Option Value} {a : PySem.W.Frag → Addr} (h : nilB a K = true) (r : List Addr) (G : Hp) : Rep K mg r G (.tup []) (.ref (a K)) := by
  refine .tup (vs := []) ?_ .nil
  unfold nilB at h
  cases q : K.lookup (a K) with
  | none => rw [q] at h; cases h
  | some o =>
    obtain ⟨oc, od, dt, osl⟩ := o
    rw [q] at h
    cases oc with
    | type c =>
      cases dt with
      | seq its n =>
        obtain ⟨h1, h2⟩ := Bool.and_eq_true_iff.mp (show (decide (c = "tuple") && decide (its.size = 0)) = true from h)
        have h3 : its.size = 0 := of_decide_eq_true h2
        refine .inr ⟨_, its, n, q, congrArg Value.type (of_decide_eq_true h1), rfl, by rw [h3]; exact Nat.zero_le _, ?_⟩
        have : its.toList = [] := List.eq_nil_of_length_eq_zero (by simpa using h3)
        rw [this]
        exact .nil
      | _ => cases h
    | _ => cases dt <;> cases h
/-! raise X(..) in a place that is never reached -/
/-! a def that calls itself: as deep as n -/
def recF (N : Nat) (g : FF → SF) : Nat → FF
  | 0 => fun _ _ => .bad
  | n + 1 => fnF N (g (recF N g n))
theorem recF_succ (N : Nat) (g : FF → SF) (n : Nat) : recF N g (n + 1) = fnF N (g (recF N g n)) := rfl
section
variable {P : Program} {w : World} {K : PySem.W.Frag} {mg : Str → Option Value} {base : Heap} {x qual : Str} {st : Stmt} {f : Addr} {N ps : List Str} {k : Nat} {g : FF → SF} {dvs : List V}
theorem def_rec (F : ∃ fd, FunD K x qual (defArgs st) (defBody st) (defScope st) [] [] f fd) (S : FnScope N ps (defScope st))
    (hb : ∀ (kV doc pm : Value) (an : Option Addr) (cdv ct : Value) (us : List Value), us.length = ps.length → bindArgs (PySem.W.fnOf x qual (defArgs st) (defBody st) (defScope st) .none kV doc pm an cdv ct) ⟨us, []⟩ = pure (ps.zip us))
    (h : ∀ n Fr, DefOk P w K mg base (k + n + 1) f ps [] Fr → BodyOk P w K mg base N qual st f (k + n + 1) (g Fr)) : ∀ n, DefOk P w K mg base (k + n + 1) f ps [] (recF N.length g n)
  | 0 => by
    have := def_ok (P := P) (w := w) (mg := mg) (base := base) (k := k) (g := fun _ _ => .bad) F S hb (fun _ _ _ _ _ _ _ => ss_nevers)
    exact this
  | n + 1 => by
    have ih := def_rec F S hb h n
    exact def_ok (k := k + n + 1) (g := g (recF N.length g n)) F S hb (h n _ ih)
end
end Sh
/-! Part W: own __len__, __getitem__, __contains__. -/
namespace Sh
open PySem L2 He
section
variable {X : Cx} {W : We} {a b e o : Expr} {es : List Expr} {fa fb : EF} {ga : AF} {pos p : Pos} {k c : Nat} {g C : Addr} {F : FF} {ps : List Str} {m x : Str} {sem base : List D → Sto → Res D} {f : Value}
def CalS (X : Cx) (W : We) (f : Value) (sem : List D → Sto → Res D) : Prop := ∀ (pins : List (Addr × Obj)) (s : Shared) (σ : St) (m : Hw) (st : Sto) (l : List D) (vs : List V) (us : List Value) (Q : VK), Inv X pins σ m.h s → Vals vs us → Rel X.K X.mg m st → Reps X.K X.mg m.r m.g l vs →
  Post X.K X.mg W.w m σ (RD X.K X.mg) Q (sem l st) → wpAny (model X.prog X.w) X.A (call f us) (EP X pins σ Q) X.xe s
theorem CalS.of {r : List V → Hp → VK → Prop} (hc : CallR X f r) (hs : FitsL X W r sem) : CalS X W f sem := fun pins s σ m st l vs us Q I rv rm ra hp => hc pins s σ m.h vs us Q I rv (hs m st σ l vs Q rm ra hp)
theorem se_callS {id : String} (hc : CalS X W (.builtin id) sem) (hg : Gl X x) (hm : X.mg x = none) (hv : bootBuiltins x = some (.builtin id)) (ha : SA X W (e :: es) ga) (hn : x ≠ "__name__" := by decide) (hdb : (x == ("__debug__" : Str)) = false := by decide)
    (he : starEach (e :: es) X.env = (false, eval e X.env) :: starEach es X.env := by rfl) (hpl : (backTo pos (starEach es X.env)).any (·.1) = false := by rfl) : SE X W (.Call (.Name x p) (e :: es) [] pos) (fCall sem ga) := ⟨fun pins s σ H Q I t => by
  obtain ⟨w, sg, st, rfl, rm, rs, hp⟩ := t
  refine wpAny_Call_Name_kw (ld_blt I hg hm hv ?_ hn hdb)
  refine PyProof.Rows.callWith_builtin1 (thn (ha.run pos pins s σ w.h (fun vs H2 => ∃ m2 l st2, m2.h = H2 ∧ Rel X.K X.mg m2 st2 ∧ Reps X.K X.mg m2.r m2.g l vs ∧ Post X.K X.mg W.w m2 σ (RD X.K X.mg) Q (sem l st2)) I
    ⟨w, sg, st, rfl, rm, rs, Post.bindc (x := ga sg st) hp fun m2 l vs st2 e2 r2 q2 hp2 => ⟨m2, l, st2, rfl, r2, q2, hp2⟩⟩) fun us s1 hz => ?_) he hpl
  obtain ⟨vs, H2, I2, rv2, m2, l, st2, rfl, r2, q2, hp2⟩ := hz
  exact hc pins s1 σ m2 st2 l vs us Q I2 rv2 r2 q2 hp2⟩
/-- len of an instance by its own __len__ -/
def bLenO (c : Nat) (F : FF) (base : List D → Sto → Res D) : List D → Sto → Res D := fun l st => match l with
  | [x] => match insOf c x st with
    | some _ => (cF F 1 [] [x] st).bind fun d st1 => match d with
      | .int n => if 0 ≤ n ∧ n < 2 ^ 63 then .ok (.int n) st1 else .bad
      | _ => .bad
    | none => base [x] st
  | _ => .bad
theorem CalS.lenO (h : DefOk X.prog X.w X.K X.mg X.base k g ps [] F) (hps : ps.length = 1) (hr : Room (k + 1) X.A) (tk : Takes X W.w) (hc : X.mg (cName c) = some (.ref C)) (hme : Meth X.K C "__len__" g) (hb : CalS X W (.builtin "len") base) : CalS X W (.builtin "len") (bLenO c F base) := by
  intro pins s σ m st l vs us Q I rv rm ra hp
  unfold bLenO at hp
  split at hp
  · rename_i x
    obtain ⟨v, rfl, hv⟩ := reps1 (X := X) ra
    split at hp
    · rename_i l1 e1
      obtain ⟨a, ox, od, rfl, J, _⟩ := inst_of I hc rm hv e1
      cases rv with
      | cons r1 r2 =>
        cases r2
        obtain rfl := (show _ = Value.ref a from r1)
        obtain ⟨mm, hF⟩ := I.fr
        rw [← hps] at hp
        refine PySem.W.len_K hF I.ok.mod.kin J hme.at_ hme.fn (wpAny_mono (run_meth1 (us := []) (vs := []) (Q := fun w H3 => ∃ n : Int, w = .int n ∧ (0 ≤ n ∧ n < 2 ^ 63) ∧ Q (.int n) H3) h hr.in1 tk hv I .nil rm .nil (Post.bindc (x := cF F ps.length [] [x] st) hp fun m1 d w st1 e1 r1 q1 hp1 => ?_)) (fun w' s' z => ?_) fun _ _ z => z)
        · split at hp1
          · split at hp1
            · rename_i hn
              cases q1
              exact ⟨_, rfl, hn, hp1.okc r1 (.int _)⟩
            · exact False.elim hp1
          · exact False.elim hp1
        · obtain ⟨z', H', I', rz, n, rfl, hn, qz⟩ := z
          obtain ⟨t, rfl⟩ := (show ∃ t, w' = Value.int n t from rz)
          exact ⟨hn, .int n, H', I'.tok _, ⟨_, rfl⟩, qz⟩
    · exact hb pins s σ m st _ _ us Q I rv rm ra hp
  · exact False.elim hp
/-- x in o, o an instance with its own __contains__ -/
def dInO (neg : Bool) (c : Nat) (F : FF) (base : D → D → Sto → Res D) : D → D → Sto → Res D := fun x y st => match insOf c y st with
  | some _ => (cF F 2 [] [y, x] st).bind fun d st1 => match d with
    | .bl b => .ok (.bl (if neg then !b else b)) st1
    | _ => .bad
  | none => base x y st
theorem BinS.inO {base : D → D → Sto → Res D} (h : DefOk X.prog X.w X.K X.mg X.base k g ps [] F) (hps : ps.length = 2) (hr : Room k X.A) (tk : Takes X W.w) (hc : X.mg (cName c) = some (.ref C)) (hme : Meth X.K C "__contains__" g) (hb : BinS X W (compareOp .In) base) : BinS X W (compareOp .In) (dInO false c F base) := by
  intro pins s σ m st x y xv yv v u Q I rx ry rm qx qy hp
  unfold dInO at hp
  split at hp
  · rename_i l1 e1
    obtain ⟨a, ox, od, rfl, J, _⟩ := inst_of I hc rm qy e1
    obtain rfl : u = Value.ref a := ry
    obtain ⟨mm, hF⟩ := I.fr
    obtain ⟨⟨fd, h1, h2, _⟩, h3⟩ := h
    obtain ⟨ds, dv, bb⟩ := h2 0 (Nat.zero_le _)
    rw [← hps] at hp
    refine PySem.W.in_K hF I.ok.mod.kin J hme.at_ hme.fn (wpAny_mono (run_meth (us := [v]) (vs := [xv]) (Q := fun w H3 => ∃ b, w = .bl b ∧ Q (.bl b) H3) h1 hr tk bb ⟨dv, fun _ _ => .nil⟩ qy I (.cons rx .nil) (Ext.refl m) rm (.one qx) (Post.bindc (x := cF F ps.length [] [y, x] st) hp fun m1 d w st1 e1 r1 q1 hp1 => ?_)) (fun w' s' z => ?_) fun _ _ z => z)
    · split at hp1
      · cases q1
        exact ⟨_, rfl, hp1.okc r1 (.bl _)⟩
      · exact False.elim hp1
    · obtain ⟨z', H', I', rz, b, rfl, qz⟩ := z
      cases (show w' = Value.bool b from rz)
      exact wpAny_truthy_bool ⟨.bl b, H', I', rfl, qz⟩
  · exact hb pins s σ m st x y xv yv v u Q I rx ry rm qx qy hp
theorem BinS.notInO {base : D → D → Sto → Res D} (h : DefOk X.prog X.w X.K X.mg X.base k g ps [] F) (hps : ps.length = 2) (hr : Room k X.A) (tk : Takes X W.w) (hc : X.mg (cName c) = some (.ref C)) (hme : Meth X.K C "__contains__" g) (hb : BinS X W (compareOp .NotIn) base) : BinS X W (compareOp .NotIn) (dInO true c F base) := by
  intro pins s σ m st x y xv yv v u Q I rx ry rm qx qy hp
  unfold dInO at hp
  split at hp
  · rename_i l1 e1
    obtain ⟨a, ox, od, rfl, J, _⟩ := inst_of I hc rm qy e1
    obtain rfl : u = Value.ref a := ry
    obtain ⟨mm, hF⟩ := I.fr
    obtain ⟨⟨fd, h1, h2, _⟩, h3⟩ := h
    obtain ⟨ds, dv, bb⟩ := h2 0 (Nat.zero_le _)
    rw [← hps] at hp
    refine PySem.W.notIn_K hF I.ok.mod.kin J hme.at_ hme.fn (wpAny_mono (run_meth (us := [v]) (vs := [xv]) (Q := fun w H3 => ∃ b, w = .bl b ∧ Q (.bl !b) H3) h1 hr tk bb ⟨dv, fun _ _ => .nil⟩ qy I (.cons rx .nil) (Ext.refl m) rm (.one qx) (Post.bindc (x := cF F ps.length [] [y, x] st) hp fun m1 d w st1 e1 r1 q1 hp1 => ?_)) (fun w' s' z => ?_) fun _ _ z => z)
    · split at hp1
      · cases q1
        exact ⟨_, rfl, hp1.okc r1 (.bl _)⟩
      · exact False.elim hp1
    · obtain ⟨z', H', I', rz, b, rfl, qz⟩ := z
      cases (show w' = Value.bool b from rz)
      exact wpAny_truthy_bool ⟨.bl !b, H', I', rfl, qz⟩
  · exact hb pins s σ m st x y xv yv v u Q I rx ry rm qx qy hp
/-! subscripts -/
def PlainIx2 (b : Expr) : Prop := ∀ o i, subscripted b true o i = runValue (.builtin "lifetime.subscript" ⟨[o, i], []⟩)
def IxS (X : Cx) (W : We) (sem : D → D → Sto → Res D) : Prop :=
  ∀ (value slice : Expr) (pins : List (Addr × Obj)) (s : Shared) (σ : St) (m : Hw) (st : Sto) (x y : D) (xv yv : V) (v u : Value) (Q : VK), Inv X pins σ m.h s → RelV xv v → RelV yv u → Rel X.K X.mg m st → Rep X.K X.mg m.r m.g x xv → Rep X.K X.mg m.r m.g y yv →
    Post X.K X.mg W.w m σ (RD X.K X.mg) Q (sem x y st) → PlainIx slice → PlainIx2 slice → wpAny (model X.prog X.w) X.A (PyProof.Rows.subscriptTail value slice v u) (EP X pins σ Q) X.xe s
theorem IxS.bas : IxS X W dIx := fun value slice pins s σ m st x y xv yv v u Q I rx ry rm qx qy hp h1 h2 => ix_seq value slice pins s σ m.h xv yv v u Q I rx ry (fits_ix m st σ x y xv yv Q rm qx qy hp) (h1 _ _)
theorem IxS.none_ : IxS X W (fun _ _ _ => .bad) := fun _ _ _ _ _ _ _ _ _ _ _ _ _ _ _ _ _ _ _ _ hp _ _ => hp.elim
def dIxO (c : Nat) (F : FF) (base : D → D → Sto → Res D) : D → D → Sto → Res D := fun x y st => match insOf c x st with
  | some _ => cF F 2 [] [x, y] st
  | none => base x y st
theorem IxS.own {base : D → D → Sto → Res D} (h : DefOk X.prog X.w X.K X.mg X.base k g ps [] F) (hps : ps.length = 2) (hr : Room (k + 1) X.A) (tk : Takes X W.w) (hc : X.mg (cName c) = some (.ref C)) (hme : Meth X.K C "__getitem__" g) (hfi : PySem.W.fnIn X.K g = true) (hb : IxS X W base) : IxS X W (dIxO c F base) := by
  intro value slice pins s σ m st x y xv yv v u Q I rx ry rm qx qy hp h1 h2
  unfold dIxO at hp
  split at hp
  · rename_i l1 e1
    obtain ⟨a, ox, od, rfl, J, _⟩ := inst_of I hc rm qx e1
    obtain rfl : v = Value.ref a := rx
    obtain ⟨mm, hF⟩ := I.fr
    rw [← hps] at hp
    refine PySem.W.sub_K hF I.ok.mod.kin J hme.at_ hfi hme.fn (run_meth1 (us := [u]) (vs := [yv]) h hr.in1 tk qx I (.cons ry .nil) rm (.one qy) hp) (h2 _ _)
  · exact hb value slice pins s σ m st x y xv yv v u Q I rx ry rm qx qy hp h1 h2
theorem se_ixS {sem : D → D → Sto → Res D} (h : IxS X W sem) (ha : SE X W a fa) (hb : SE X W b fb) (h1 : PlainIx b) (h2 : PlainIx2 b) : SE X W (.Subscript a b pos) (fBin sem fa fb) := ⟨fun pins s σ H Q I t => by
  obtain ⟨w, sg, st, rfl, rm, rs, hp⟩ := t
  refine PyProof.Rows.Subscript_ (thn (ha.run pins s σ w.h (MPost X W σ sg Q fun x st1 => (fb sg st1).bind fun y st2 => sem x y st2) I ⟨w, sg, st, rfl, rm, rs, Post.bindc (x := fa sg st) hp fun m1 x v st1 e1 r1 q1 hp1 => ⟨m1, x, st1, rfl, r1, rs.mono e1, q1, hp1⟩⟩) fun u s1 hh => ?_)
  obtain ⟨v, H1, I1, rv, m1, x, st1, rfl, r1, rs1, q1, hp1⟩ := hh
  refine thn (hb.run pins s1 σ m1.h (fun v2 H2 => ∃ m2 y st2, m2.h = H2 ∧ Ext m1 m2 ∧ Rel X.K X.mg m2 st2 ∧ Rep X.K X.mg m2.r m2.g y v2 ∧ Post X.K X.mg W.w m2 σ (RD X.K X.mg) Q (sem x y st2)) I1
    ⟨m1, sg, st1, rfl, r1, rs1, Post.bindc (x := fb sg st1) hp1 fun m2 y v2 st2 e2 r2 q2 hp2 => ⟨m2, y, st2, rfl, e2, r2, q2, hp2⟩⟩) fun u2 s2 hz => ?_
  obtain ⟨v2, H2, I2, rv2, m2, y, st2, rfl, e2, r2, q2, hp2⟩ := hz
  exact h a b pins s2 σ m2 st2 x y v v2 u u2 Q I2 rv rv2 r2 (q1.mono e2) q2 hp2 h1 h2⟩
end
def bFnIn (x m : Str) (K : PySem.W.Frag) : Bool := PySem.W.fnIn K (ma K (ga K x) m)
end Sh
/-! Part X: isinstance(x, (list, tuple)). -/
namespace Sh
open PySem L2 He
def tSeq : List (String × Bool) := [("int", false), ("bool", false), ("NoneType", false), ("str", false), ("tuple", true), ("list", true), ("dict", false)]
section
variable {X : Cx} {W : We} {a b e o : Expr} {es : List Expr} {fa fb fo : EF} {pos p p1 p2 p3 : Pos} {x n1 n2 : Str} {k2 : _}
def IsiCT (X : Cx) : List (Nat × Bool) → Prop
  | [] => True
  | (c, b) :: l => (∃ C, X.mg (cName c) = some (.ref C) ∧ InsC X.K C ∧ PySem.W.kitOne X.K (.ref C) (.type "list") = some false ∧ PySem.W.kitOne X.K (.ref C) (.type "tuple") = some false ∧ b = false) ∧ IsiCT X l
theorem IsiCT.get : ∀ {l : List (Nat × Bool)} {c : Nat} {b : Bool}, IsiCT X l → l.lookup c = some b → ∃ C, X.mg (cName c) = some (.ref C) ∧ InsC X.K C ∧ PySem.W.kitOne X.K (.ref C) (.type "list") = some false ∧ PySem.W.kitOne X.K (.ref C) (.type "tuple") = some false ∧ b = false
  | [], _, _, _, e => by simp at e
  | (c', b') :: l, c, b, h, e => by
    rw [List.lookup_cons] at e
    by_cases z : c = c'
    · subst z
      simp at e
      subst e
      exact h.1
    · have : (c == c') = false := by simpa using z
      rw [this] at e
      exact IsiCT.get h.2 e
theorem kit2 {K : PySem.W.Frag} {t u v : Value} {b1 b2 : Bool} (h1 : PySem.W.kitOne K t u = some b1) (h2 : PySem.W.kitOne K t v = some b2) : PySem.W.kitAny K t [u, v] = some (b1 || b2) := by
  refine kitAny_cons h1 (fun z => ?_) fun z => by rw [z]; rfl
  refine kitAny_cons h2 (fun z2 => ?_) fun z2 => by rw [z2]; cases b1 <;> rfl
  rw [z, z2]
  rfl
theorem seq_kit {K : PySem.W.Frag} {t : String} {b : Bool} (h : tbl tSeq t = some b) : ∃ b1 b2, PySem.W.kitOne K (.type t) (.type "list") = some b1 ∧ PySem.W.kitOne K (.type t) (.type "tuple") = some b2 ∧ (b1 || b2) = b := by
  have h1 := fun q => tList_ok (K := K) t q
  have h2 := fun q => tTuple_ok (K := K) t q
  have key : ∀ p ∈ tSeq, tbl tList p.1 = some (decide (p.1 = "list")) ∧ tbl tTuple p.1 = some (decide (p.1 = "tuple")) ∧ (decide (p.1 = "list") || decide (p.1 = "tuple")) = p.2 := by decide
  have : (t, b) ∈ tSeq := by
    unfold tbl at h
    obtain ⟨l, r, e, _⟩ := List.lookup_eq_some_iff.mp h
    rw [e]
    simp
  obtain ⟨k1, k2, k3⟩ := key _ this
  exact ⟨_, _, h1 _ k1, h2 _ k2, k3⟩
theorem se_isiT0 {cl : List (Nat × Bool)} {T1 T2 : String} (h12 : (T1 = "list" ∧ T2 = "tuple") ∨ (T1 = "tuple" ∧ T2 = "list")) (hg : Gl X "isinstance") (hm : X.mg "isinstance" = none) (ho : SE X W o fo)
    (h1 : PE X a (tC (.ty T1))) (h2 : PE X b (tC (.ty T2))) (hcl : IsiCT X cl)
    (he : starEach (o :: [Expr.Tuple [a, b] k2 p3]) X.env = (false, eval o X.env) :: starEach [Expr.Tuple [a, b] k2 p3] X.env := by rfl) (hpl : (backTo pos (starEach [Expr.Tuple [a, b] k2 p3] X.env)).any (·.1) = false := by rfl) (hs : starEach (Expr.Tuple [a, b] k2 p3 :: []) X.env = (false, eval (Expr.Tuple [a, b] k2 p3) X.env) :: starEach [] X.env := by rfl)
    (hs1 : starEach (a :: [b]) X.env = (false, eval a X.env) :: starEach [b] X.env := by rfl) (hs2 : starEach (b :: []) X.env = (false, eval b X.env) :: starEach [] X.env := by rfl) :
    SE X W (.Call (.Name "isinstance" p) [o, .Tuple [a, b] k2 p3] [] pos) (fIsi (tbl tSeq) cl fo) :=
  pe_weak (pe_callB call_isiT hg hm (by decide +kernel) (pa_cons ho (pa_cons (pe_tup (pa_cons h1 (pa_cons h2 pa_nil hs2) hs1)) pa_nil hs) he) (by decide) (by decide) he hpl) fun σ H Q ⟨m, sg, st, e, rm, rs, hp⟩ => ⟨m, sg, st, e, rm, rs, hp.bindc fun m1 x v st1 e1 r1 q1 hp1 => by
    refine ⟨by show 2 ≤ sizeLine; decide, fun tp hn => ?_⟩
    have r2 : Rel X.K X.mg (m1.lay tp (.tup [.ty T1, .ty T2])) st1 := r1.lay hn
    have e2 : Ext m1 (m1.lay tp (.tup [.ty T1, .ty T2])) := Ext.lay r1 hn
    have q2 := q1.mono e2
    have hp2 := Post.mono hp1 e2
    have pr : Paired ClsV [.ty T1, .ty T2] [.type T1, .type T2] := .cons (.ty _) (.cons (.ty _) .nil)
    unfold bIsi at hp2
    split at hp2
    · rename_i t ht
      split at hp2
      · rename_i b hb
        obtain ⟨b1, b2, z1, z2, z3⟩ := seq_kit (K := X.K) hb
        refine ⟨_, tp, _, _, _, b, rfl, upd_same, pr, ty_of r2 q2 ht, ?_, hp2.okc r2 (.bl _)⟩
        rcases h12 with ⟨rfl, rfl⟩ | ⟨rfl, rfl⟩
        · rw [kit2 z1 z2, z3]
        · rw [kit2 z2 z1, Bool.or_comm, z3]
      · exact False.elim hp2
    · split at hp2
      · rename_i c' hc'
        split at hp2
        · rename_i b hb
          obtain ⟨C, k1, k2, k3, k4, rfl⟩ := hcl.get hb
          refine ⟨_, tp, _, _, _, _, rfl, upd_same, pr, cls_of r2 q2 hc' k1 k2, ?_, hp2.okc r2 (.bl _)⟩
          rcases h12 with ⟨rfl, rfl⟩ | ⟨rfl, rfl⟩
          · exact kit2 k3 k4
          · exact kit2 k4 k3
        · exact False.elim hp2
      · exact False.elim hp2⟩
end
end Sh
/-! Part Y: data that may be compared; what more to rewrite with. -/
namespace Sh
open PySem L2
mutual
/-- data without instances, dicts, places -/
def py : D → Bool
  | .non => true
  | .bl _ => true
  | .int _ => true
  | .str _ => true
  | .tup l => pys l
  | .lst l => pys l
  | _ => false
def pys : List D → Bool
  | [] => true
  | x :: l => py x && pys l
end
mutual
def dep : D → Nat
  | .tup l => deps l + 1
  | .lst l => deps l + 1
  | _ => 0
def deps : List D → Nat
  | [] => 0
  | x :: l => max (dep x) (deps l)
end
@[simp] theorem py_non : py (.non) = true := rfl
@[simp] theorem py_bl (a : Bool) : py (.bl a) = true := rfl
@[simp] theorem py_int (i : Int) : py (.int i) = true := rfl
@[simp] theorem py_str (x : Str) : py (.str x) = true := rfl
@[simp] theorem py_ins (c : Nat) (l : List D) : py (.ins c l) = false := rfl
@[simp] theorem py_loc (n : Nat) : py (.loc n) = false := rfl
@[simp] theorem py_scr (l : List Int) : py (.scr l) = false := rfl
@[simp] theorem py_edict : py (.edict) = false := rfl
@[simp] theorem py_tup (l : List D) : py (.tup l) = pys l := rfl
@[simp] theorem py_lst (l : List D) : py (.lst l) = pys l := rfl
@[simp] theorem pys_nil : pys [] = true := rfl
@[simp] theorem pys_cons (x : D) (l : List D) : pys (x :: l) = (py x && pys l) := rfl
@[simp] theorem dep_tup (l : List D) : dep (.tup l) = deps l + 1 := rfl
@[simp] theorem dep_lst (l : List D) : dep (.lst l) = deps l + 1 := rfl
@[simp] theorem deps_nil : deps [] = 0 := rfl
@[simp] theorem deps_cons (x : D) (l : List D) : deps (x :: l) = max (dep x) (deps l) := rfl
@[simp] theorem dep_non : dep (.non) = 0 := rfl
@[simp] theorem dep_bl (a : Bool) : dep (.bl a) = 0 := rfl
@[simp] theorem dep_int (i : Int) : dep (.int i) = 0 := rfl
@[simp] theorem dep_str (x : Str) : dep (.str x) = 0 := rfl
@[simp] theorem dep_ins (c : Nat) (l : List D) : dep (.ins c l) = 0 := rfl
@[simp] theorem dep_loc (n : Nat) : dep (.loc n) = 0 := rfl
@[simp] theorem dep_scr (l : List Int) : dep (.scr l) = 0 := rfl
@[simp] theorem dep_edict : dep (.edict) = 0 := rfl
mutual
theorem toPy_of : ∀ x : D, py x = true → ∃ d, toPy x = some d ∧ d.depth = dep x
  | .non, _ => ⟨.none, by simp [toPy], by simp [PyData.depth]⟩
  | .bl b, _ => ⟨.bool b, by simp [toPy], by simp [PyData.depth]⟩
  | .int i, _ => ⟨.int i, by simp [toPy], by simp [PyData.depth]⟩
  | .str i, _ => ⟨.str i, by simp [toPy], by simp [PyData.depth]⟩
  | .tup l, h => by
    obtain ⟨ds, h1, h2⟩ := toPys_of l (by simpa using h)
    exact ⟨.tuple ds, by simp [toPy, h1], by simp [PyData.depth, h2]⟩
  | .lst l, h => by
    obtain ⟨ds, h1, h2⟩ := toPys_of l (by simpa using h)
    exact ⟨.list ds, by simp [toPy, h1], by simp [PyData.depth, h2]⟩
  | .ins _ _, h => by simp at h
  | .edict, h => by simp at h
  | .loc _, h => by simp at h
  | .scr _, h => by simp at h
theorem toPys_of : ∀ l : List D, pys l = true → ∃ ds, toPys l = some ds ∧ PyData.depthAll ds = deps l
  | [], _ => ⟨[], by simp [toPys], by simp [PyData.depthAll]⟩
  | x :: l, h => by
    obtain ⟨h1, h2⟩ := Bool.and_eq_true_iff.mp (show (py x && pys l) = true by simpa using h)
    obtain ⟨d, e1, e2⟩ := toPy_of x h1
    obtain ⟨ds, e3, e4⟩ := toPys_of l h2
    exact ⟨d :: ds, by simp [toPys, e1, e3], by simp [PyData.depthAll, e2, e4]⟩
end
theorem eqOk_of {x y : D} (hx : py x = true) (hy : py y = true) (h : min (dep x) (dep y) ≤ 64) : eqOk x y = true := by
  obtain ⟨d, e1, e2⟩ := toPy_of x hx
  obtain ⟨e, e3, e4⟩ := toPy_of y hy
  unfold eqOk
  rw [e1, e3]
  simp only [e2, e4, decide_eq_true h]
/-- == of data by value -/
theorem dEq_py {x y : D} (st : Sto) (hx : py x = true) (hy : py y = true) (h : min (dep x) (dep y) ≤ 64) : dEq x y st = .ok (.bl (dEqv x y)) st := by
  refine dEq_ok (eqOk_of hx hy h) ?_ ?_ <;> (unfold resD; split <;> first | rfl | (simp at hx; done) | (simp at hy; done))
theorem dNe_py {x y : D} (st : Sto) (hx : py x = true) (hy : py y = true) (h : min (dep x) (dep y) ≤ 64) : dNe x y st = .ok (.bl (!dEqv x y)) st := by
  refine dNe_ok (eqOk_of hx hy h) ?_ ?_ <;> (unfold resD; split <;> first | rfl | (simp at hx; done) | (simp at hy; done))
@[simp] theorem dEq_ss (x y : Str) (st : Sto) : dEq (.str x) (.str y) st = .ok (.bl (x == y)) st := by rw [dEq_py st rfl rfl (by simp)]; simp
@[simp] theorem dNe_ss (x y : Str) (st : Sto) : dNe (.str x) (.str y) st = .ok (.bl !(x == y)) st := by rw [dNe_py st rfl rfl (by simp)]; simp
@[simp] theorem dEq_bb (x y : Bool) (st : Sto) : dEq (.bl x) (.bl y) st = .ok (.bl (x == y)) st := by rw [dEq_py st rfl rfl (by simp)]; simp
@[simp] theorem dNe_bb (x y : Bool) (st : Sto) : dNe (.bl x) (.bl y) st = .ok (.bl !(x == y)) st := by rw [dNe_py st rfl rfl (by simp)]; simp
mutual
theorem dEqv_refl : ∀ x : D, py x = true → dEqv x x = true
  | .non, _ => by simp
  | .bl b, _ => by simp
  | .int i, _ => by simp
  | .str i, _ => by simp
  | .tup l, h => by
    have := dEqvs_refl l (by simpa using h)
    simpa using this
  | .lst l, h => by
    have := dEqvs_refl l (by simpa using h)
    simpa using this
  | .ins _ _, h => by simp at h
  | .edict, h => by simp at h
  | .loc _, h => by simp at h
  | .scr _, h => by simp at h
theorem dEqvs_refl : ∀ l : List D, pys l = true → dEqvs l l = true
  | [], _ => by simp
  | x :: l, h => by
    obtain ⟨h1, h2⟩ := Bool.and_eq_true_iff.mp (show (py x && pys l) = true by simpa using h)
    simp [dEqv_refl x h1, dEqvs_refl l h2]
end
theorem pys_mem {l : List D} : pys l = true ↔ ∀ x ∈ l, py x = true := by
  induction l with
  | nil => simp
  | cons a l ih => simp [ih]
theorem deps_le {l : List D} {n : Nat} : deps l ≤ n ↔ ∀ x ∈ l, dep x ≤ n := by
  induction l with
  | nil => simp
  | cons a l ih =>
    simp only [deps, List.mem_cons, forall_eq_or_imp, ← ih]
    omega
theorem pu_of_py {x : D} (h : py x = true) : pu x = true := by
  have key : ∀ n (x : D), sizeOf x < n → py x = true → pu x = true := by
    intro n
    induction n with
    | zero => intro x h; omega
    | succ n ih =>
      have list : ∀ l : List D, sizeOf l < n + 1 → pys l = true → pus l = true := by
        intro l
        induction l with
        | nil => intro _ _; rfl
        | cons y l ihl =>
          intro hs hp
          obtain ⟨h1, h2⟩ := Bool.and_eq_true_iff.mp (show (py y && pys l) = true by simpa using hp)
          have s1 : sizeOf y < n := by simp at hs; omega
          have s2 : sizeOf l < n + 1 := by simp at hs; omega
          simp [ih y s1 h1, ihl s2 h2]
      intro x hs hp
      cases x with
      | tup l => simpa using list l (by simp at hs; omega) (by simpa using hp)
      | lst l => simpa using list l (by simp at hs; omega) (by simpa using hp)
      | non => rfl
      | bl b => rfl
      | int i => rfl
      | str z => rfl
      | _ => simp at hp
  exact key _ x (Nat.lt_succ_self _) h
/-! what more to rewrite with -/
@[simp] theorem str_lit {a b : String} : Str.ofString a = Str.ofString b ↔ a = b := by
  constructor
  · intro h
    have h1 := congrArg (fun z => z.cps.toList) h
    simp only [Str.ofString_eq_toList] at h1
    have h2 : a.toList.map Char.toNat = b.toList.map Char.toNat := by simpa using h1
    have h3 : a.toList = b.toList := by
      have inj : ∀ l m : List Char, l.map Char.toNat = m.map Char.toNat → l = m := by
        intro l
        induction l with
        | nil => intro m h; cases m with
          | nil => rfl
          | cons => simp at h
        | cons c l ih => intro m h; cases m with
          | nil => simp at h
          | cons d m =>
            simp at h
            have : c = d := by
              apply Char.ext
              apply UInt32.toNat_inj.mp
              exact h.1
            rw [this, ih m h.2]
      exact inj _ _ h2
    exact String.toList_inj.mp h3
  · intro h; rw [h]
@[simp] theorem pu_non : pu (.non) = true := rfl
@[simp] theorem pu_bl (a : Bool) : pu (.bl a) = true := rfl
@[simp] theorem pu_int (i : Int) : pu (.int i) = true := rfl
@[simp] theorem pu_str (x : Str) : pu (.str x) = true := rfl
@[simp] theorem pu_scr (l : List Int) : pu (.scr l) = true := rfl
@[simp] theorem pu_edict : pu (.edict) = true := rfl
theorem dInL_of {neg : Bool} {x y : D} {st : Sto} {l : List D} (h : itemsOf y st = some l) (hx : dFlat x = true) (hl : l.all dFlat = true) : dInL neg x y st = .ok (.bl (if neg then !(l.any fun y => dEqv y x) else l.any fun y => dEqv y x)) st := by
  unfold dInL; rw [h]; simp [hx, hl]
@[simp] theorem dFlat_non : dFlat (.non) = true := rfl
@[simp] theorem dFlat_bl (a : Bool) : dFlat (.bl a) = true := rfl
@[simp] theorem dFlat_int (i : Int) : dFlat (.int i) = true := rfl
@[simp] theorem dFlat_str (x : Str) : dFlat (.str x) = true := rfl
@[simp] theorem dFlat_tup (l : List D) : dFlat (.tup l) = false := rfl
@[simp] theorem dFlat_lst (l : List D) : dFlat (.lst l) = false := rfl
theorem dInL_tup {neg : Bool} {x : D} {l : List D} {st : Sto} (hx : dFlat x = true) (hl : l.all dFlat = true) : dInL neg x (.tup l) st = .ok (.bl (if neg then !(l.any fun y => dEqv y x) else l.any fun y => dEqv y x)) st := dInL_of rfl hx hl
theorem dInL_lst {neg : Bool} {x : D} {l : List D} {st : Sto} (hx : dFlat x = true) (hl : l.all dFlat = true) : dInL neg x (.lst l) st = .ok (.bl (if neg then !(l.any fun y => dEqv y x) else l.any fun y => dEqv y x)) st := dInL_of rfl hx hl
@[simp] theorem ev_lstOf : type_of% @lstOf.eq_def := @lstOf.eq_def
@[simp] theorem ev_bTuple : type_of% @bTuple.eq_def := @bTuple.eq_def
@[simp] theorem ev_bList : type_of% @bList.eq_def := @bList.eq_def
@[simp] theorem ev_dSl : type_of% @dSl.eq_def := @dSl.eq_def
@[simp] theorem ev_dRep : type_of% @dRep.eq_def := @dRep.eq_def
@[simp] theorem ev_bLenO : type_of% @bLenO.eq_def := @bLenO.eq_def
@[simp] theorem ev_dIxO : type_of% @dIxO.eq_def := @dIxO.eq_def
@[simp] theorem ev_dInO : type_of% @dInO.eq_def := @dInO.eq_def
@[simp] theorem ev_mS2B : type_of% @mS2B.eq_def := @mS2B.eq_def
@[simp] theorem ev_dOwnI : type_of% @dOwnI.eq_def := @dOwnI.eq_def
@[simp] theorem ev_rXc : type_of% @rXc.eq_def := @rXc.eq_def
@[simp] theorem ev_dFmt : type_of% @dFmt.eq_def := @dFmt.eq_def
@[simp] theorem ev_bStr : type_of% @bStr.eq_def := @bStr.eq_def
@[simp] theorem isi_seq_int (i : Int) (cl : List (Nat × Bool)) (st : Sto) : bIsi (tbl tSeq) cl (.int i) st = .ok (.bl false) st := rfl
@[simp] theorem isi_seq_bl (i : Bool) (cl : List (Nat × Bool)) (st : Sto) : bIsi (tbl tSeq) cl (.bl i) st = .ok (.bl false) st := rfl
@[simp] theorem isi_seq_non (cl : List (Nat × Bool)) (st : Sto) : bIsi (tbl tSeq) cl .non st = .ok (.bl false) st := rfl
@[simp] theorem isi_seq_str (i : Str) (cl : List (Nat × Bool)) (st : Sto) : bIsi (tbl tSeq) cl (.str i) st = .ok (.bl false) st := rfl
@[simp] theorem isi_seq_tup (i : List D) (cl : List (Nat × Bool)) (st : Sto) : bIsi (tbl tSeq) cl (.tup i) st = .ok (.bl true) st := rfl
@[simp] theorem isi_seq_lst (i : List D) (cl : List (Nat × Bool)) (st : Sto) : bIsi (tbl tSeq) cl (.lst i) st = .ok (.bl true) st := rfl
end Sh
/-! Part Z: objects made with keywords. -/
namespace Sh
open PySem L2
section
variable {X : Cx} {W : We} {e o : Expr} {es : List Expr} {kws : List Keyword} {g gk : AF} {pos p apos pos' : Pos} {x m : Str} {k np : Nat} {fn C : Addr} {ps ks : List Str} {dvs : List V} {dds : List D} {F : FF} {arr : List (Nat × Nat)}
theorem run_makeK {ci : Nat} {pins : List (Addr × Obj)} {σ : St} {s : Shared} {w : Hw} {stt : Sto} {l z : List D} {vs zs : List V} {us ws : List Value} {Q : VK} (hc : X.mg (cName ci) = some (.ref C)) (M : Mk X.K C fn) (h : DefKw X.prog X.w X.K X.mg X.base k fn ps dvs F np ks arr) (hd : ∀ r G, Reps X.K X.mg r G dds dvs) (hr : Room (k + 1) X.A) (tk : Takes X W.w)
    (I : Inv X pins σ w.h s) (r : Vals vs us) (rz : Vals zs ws) (rm : Rel X.K X.mg w stt) (q : Reps X.K X.mg w.r w.g l vs) (qz : Reps X.K X.mg w.r w.g z zs)
    (hp : ∀ x dx, w.h x = none → w.h dx = none → dx ≠ x → Post X.K X.mg W.w ⟨w.r ++ [x], w.g, upd (upd w.h dx (.own x)) x (.ins C dx [])⟩ σ (RD X.K X.mg) (fun v H2 => v = .non ∧ Q (.ref x) H2) (cK F ps.length np ks.length arr dds (.loc stt.length :: l) z (stt ++ [.ins ci []]))) :
    wpAny (model X.prog X.w) X.A (call (.ref C) us (ks.zip ws)) (EP X pins σ Q) X.xe s := by
  have n1 : w.h (s.heap.objs.size + 1) = none := I.hok.fresh (Nat.le_succ _)
  have n2 : w.h s.heap.objs.size = none := I.hok.fresh (Nat.le_refl _)
  have n3 : s.heap.objs.size ≠ s.heap.objs.size + 1 := Nat.ne_of_lt (Nat.lt_succ_self _)
  have hq := hp _ _ n1 n2 n3
  have I2 := Inv.made (C := C) I
  have r0 := rm.side (o := .own (s.heap.objs.size + 1)) (rm.fresh n2) (rm.gnone n2)
  have n4 : (w.put s.heap.objs.size (.own (s.heap.objs.size + 1))).h (s.heap.objs.size + 1) = none := by
    show upd w.h _ _ _ = none
    rw [upd_ne (Ne.symm n3)]; exact n1
  have r1 := r0.new (o := .ins C s.heap.objs.size []) (so := .ins ci []) n4 ⟨C, _, [], hc, upd_same, by simp, .nil⟩
  have e1 : ∀ (i : Nat) (a : Addr), w.r[i]? = some a → (w.r ++ [s.heap.objs.size + 1])[i]? = some a := fun i a z => by
    rw [List.getElem?_append_left (List.getElem?_eq_some_iff.mp z).1]; exact z
  have ql : Reps X.K X.mg (w.r ++ [s.heap.objs.size + 1]) w.g (.loc stt.length :: l) (V.ref (s.heap.objs.size + 1) :: vs) := .cons (.loc (by
    rw [← rm.len, List.getElem?_append_right (Nat.le_refl _)]
    simp)) (Reps.mono' e1 (fun _ _ z => z) _ _ q)
  have qz2 : Reps X.K X.mg (w.r ++ [s.heap.objs.size + 1]) w.g z zs := Reps.mono' e1 (fun _ _ z => z) _ _ qz
  have rr : Vals (V.ref (s.heap.objs.size + 1) :: vs) (Value.ref (s.heap.objs.size + 1) :: us) := .cons rfl r
  obtain ⟨fd, its, hF, hv, hb, _⟩ := h
  unfold cK at hq
  split at hq
  · rename_i hl
    obtain ⟨l1, l2, l3⟩ := hl
    have here := hF.run _ X.stack _ _ ⟨Value.ref (s.heap.objs.size + 1) :: us, ks.zip ws⟩ (pick arr (Value.ref (s.heap.objs.size + 1) :: us) its ws) (pick arr (V.ref (s.heap.objs.size + 1) :: vs) dvs zs) (fun v H2 => v = .non ∧ Q (.ref (s.heap.objs.size + 1)) H2) (WE W.w σ) (hr.make C us (ks.zip ws)) (I2.env0.make C us (ks.zip ws)) (hb.to _ (Value.ref (s.heap.objs.size + 1) :: us) ws I2.kIn (by rw [← rr.length, ← ql.length]; exact l1) (by rw [← rz.length, ← qz.length]; exact l2)) (pick_vals rr hv rz arr)
      ⟨⟨w.r ++ [s.heap.objs.size + 1], w.g, _⟩, _, _, rfl, r1, pick_reps ql (hd _ _) qz2 arr, l3, hq.conv⟩
    refine wpAny_call (make_map (f := fn) I.kIn M.makes M.init (beq_iff_eq.mp M.fn) (codeAny_mono here fun res s' hz => ?_))
    match res, hz with
    | .error er, hz => exact passAt tk σ pins _ _ er s' I2 hz
    | .ok (.ret u), hz =>
      obtain ⟨v, H', I3, rv, ev, q3⟩ := I2.after hz
      subst ev
      exact ⟨rv, ⟨V.ref (s.heap.objs.size + 1), H', I3, rfl, q3⟩⟩
    | .ok .next, hz => exact False.elim hz
    | .ok .brk, hz => exact False.elim hz
    | .ok .cont, hz => exact False.elim hz
  · exact False.elim hq
noncomputable def mkK (c : Nat) (F : FF) (n np nk : Nat) (arr : List (Nat × Nat)) (dds : List D) (l z : List D) : Sto → Res D := mkG c (fun x => cK F n np nk arr dds (x :: l) z)
theorem se_makeK {ci : Nat} (h : DefKw X.prog X.w X.K X.mg X.base k fn ps dvs F np ks arr) (hd : ∀ r G, Reps X.K X.mg r G dds dvs) (hr : Room (k + 1) X.A) (tk : Takes X W.w) (hc : X.mg (cName ci) = some (.ref C)) (M : Mk X.K C fn) (hg : Gl X x) (hm : X.mg x = some (.ref C)) (ha : SA X W (e :: es) g) (hk : SK X W kws gk)
    (hall : (backToKw pos (keywordEach kws X.env)).all (·.1.isSome) = true := by rfl) (hks : (backToKw pos (keywordEach kws X.env)).filterMap (·.1) = ks := by rfl)
    (hdb : (x == ("__debug__" : Str)) = false := by decide) (he : starEach (e :: es) X.env = (false, eval e X.env) :: starEach es X.env := by rfl)
    (hpl : ((backTo pos (starEach (e :: es) X.env)).any (·.1) || (backToKw pos (keywordEach kws X.env)).any (·.1.isNone)) = false := by rfl) :
    SE X W (.Call (.Name x p) (e :: es) kws pos) (fCallK (mkK ci F ps.length np ks.length arr dds) g gk) := by
  refine ⟨fun pins s σ H Q I ht => ?_⟩
  obtain ⟨w, sg, st, rfl, rm, rs, hp⟩ := ht
  refine wpAny_Call_Name_kw (ld_glob I hg hm ?_ hdb)
  refine PySem.W.callWith_KW (h₀ := X.base) I.ok.mod.kin M.kp hall (thn (ha.run pos pins s σ w.h (fun vs H2 => ∃ m2 l st2, m2.h = H2 ∧ Rel X.K X.mg m2 st2 ∧ SgRep X.K X.mg W.e m2 sg σ ∧ Reps X.K X.mg m2.r m2.g l vs ∧ Post X.K X.mg W.w m2 σ (RD X.K X.mg) Q ((gk sg st2).bind fun z st3 => mkK ci F ps.length np ks.length arr dds l z st3)) I
    ⟨w, sg, st, rfl, rm, rs, hp.bindc fun m2 l vs st2 e2 r2 q2 hp2 => ⟨m2, l, st2, rfl, r2, rs.mono e2, q2, hp2⟩⟩) fun us s1 hz => ?_) hpl he
  obtain ⟨vs, H2, I2, rv, m2, l, st2, rfl, r2, rs2, q2, hp2⟩ := hz
  refine thn (hk.run pos pins s1 σ m2.h (fun zs H3 => ∃ m3 z st3, m3.h = H3 ∧ Ext m2 m3 ∧ Rel X.K X.mg m3 st3 ∧ Reps X.K X.mg m3.r m3.g z zs ∧ Post X.K X.mg W.w m3 σ (RD X.K X.mg) Q (mkK ci F ps.length np ks.length arr dds l z st3)) I2
    ⟨m2, sg, st2, rfl, r2, rs2, Post.bindc (x := gk sg st2) hp2 fun m3 z zs st3 e3 r3 q3 hp3 => ⟨m3, z, st3, rfl, e3, r3, q3, hp3⟩⟩) fun ws s2 hz2 => ?_
  obtain ⟨zs, H3, I3, rz, m3, z, st3, rfl, e3, r3, q3, hp3⟩ := hz2
  rw [hks]
  exact ⟨I3.kIn, run_makeK hc M h hd hr tk I3 rv rz r3 (q2.mono e3) q3 (mkG_post (Fk := fun x => cK F ps.length np ks.length arr dds (x :: l) z) hc r3 hp3)⟩
theorem se_makeK0 {ci : Nat} (h : DefKw X.prog X.w X.K X.mg X.base k fn ps dvs F np ks arr) (hd : ∀ r G, Reps X.K X.mg r G dds dvs) (hr : Room (k + 1) X.A) (tk : Takes X W.w) (hc : X.mg (cName ci) = some (.ref C)) (M : Mk X.K C fn) (hg : Gl X x) (hm : X.mg x = some (.ref C)) (hk : SK X W kws gk)
    (hall : (backToKw pos (keywordEach kws X.env)).all (·.1.isSome) = true := by rfl) (hks : (backToKw pos (keywordEach kws X.env)).filterMap (·.1) = ks := by rfl)
    (hdb : (x == ("__debug__" : Str)) = false := by decide)
    (hpl : ((backTo pos (starEach [] X.env)).any (·.1) || (backToKw pos (keywordEach kws X.env)).any (·.1.isNone)) = false := by rfl) :
    SE X W (.Call (.Name x p) [] kws pos) (fCallK (mkK ci F ps.length np ks.length arr dds) aNil gk) := by
  refine ⟨fun pins s σ H Q I ht => ?_⟩
  obtain ⟨w, sg, st, rfl, rm, rs, hp⟩ := ht
  refine wpAny_Call_Name_kw (ld_glob I hg hm ?_ hdb)
  refine PySem.W.callWith_KW0 (h₀ := X.base) I.ok.mod.kin M.kp hall (thn (hk.run pos pins s σ w.h (fun zs H3 => ∃ m3 z st3, m3.h = H3 ∧ Rel X.K X.mg m3 st3 ∧ Reps X.K X.mg m3.r m3.g z zs ∧ Post X.K X.mg W.w m3 σ (RD X.K X.mg) Q (mkK ci F ps.length np ks.length arr dds [] z st3)) I
    ⟨w, sg, st, rfl, rm, rs, Post.bindc (x := gk sg st) hp fun m3 z zs st3 e3 r3 q3 hp3 => ⟨m3, z, st3, rfl, r3, q3, hp3⟩⟩) fun ws s2 hz => ?_) hpl
  obtain ⟨zs, H3, I3, rz, m3, z, st3, rfl, r3, q3, hp3⟩ := hz
  rw [hks]
  exact ⟨I3.kIn, run_makeK (us := []) hc M h hd hr tk I3 .nil rz r3 .nil q3 (mkG_post (Fk := fun x => cK F ps.length np ks.length arr dds (x :: []) z) hc r3 hp3)⟩
end
/-! a[i], b[j] = x, y -/
section
open He
variable {X : Cx} {W : We} {e o o2 b b2 : Expr} {f fo fo2 fi fi2 : EF} {pos : Pos}
def rPut2 (fo fi fo2 fi2 f : EF) : Sg → Sto → Res Unit := fun sg st => (f sg st).bind fun d st1 => match d with
  | .tup [d1, d2] => (fo sg st1).bind fun x st2 => (fi sg st2).bind fun i st3 => match i with
    | .int i => match stSet x i d1 st3 with
      | some st4 => (fo2 sg st4).bind fun y st5 => (fi2 sg st5).bind fun j st6 => match j with
        | .int j => match stSet y j d2 st6 with
          | some st7 => .ok () st7
          | none => .bad
        | _ => .bad
      | none => .bad
    | _ => .bad
  | _ => .bad
@[simp] def sPut2 (fo fi fo2 fi2 f : EF) : SF := fun sg st => (rPut2 fo fi fo2 fi2 f sg st).flw sg fun _ st4 => .nx sg st4
theorem set_put {m : Hw} {st st4 : Sto} {x d : D} {w v : V} {i : Int} (hst : stSet x i d st = some st4) (q2 : Rep X.K X.mg m.r m.g x w) (rm : Rel X.K X.mg m st) (q1 : Rep X.K X.mg m.r m.g d v) :
    ∃ a vs j, w = .ref a ∧ m.h a = some (.lst vs) ∧ ixN vs.length i = some j ∧ Ext m (m.put a (.lst (vs.set j v))) ∧ Rel X.K X.mg (m.put a (.lst (vs.set j v))) st4 := by
  unfold stSet at hst
  split at hst
  · split at hst
    · rename_i l hl
      split at hst
      · rename_i j hj
        cases hst
        cases q2 with
        | loc hr =>
          obtain ⟨vs, k1, k2⟩ := rm.obj _ _ _ hr hl
          exact ⟨_, vs, j, rfl, k1, by rw [← k2.length]; exact hj, Ext.put (List.mem_of_getElem? hr), rm.put hr ⟨_, upd_same, k2.set q1 j⟩⟩
      · cases hst
    · cases hst
  · cases hst
theorem ss_put2 {ps ps2 pt pt2 : Pos} {kt k2} {es : List Expr} (hc : X.calm = true) (ho : SE X W o fo) (hi : SE X W b fi) (ho2 : SE X W o2 fo2) (hi2 : SE X W b2 fi2) (he : SE X W (.Tuple es k2 pt2) f)
    (hs : swapsWithSole [.Tuple [.Subscript o b ps, .Subscript o2 b2 ps2] kt pt] (.Tuple es k2 pt2) pos.line X.env = pure false := by rfl) (hw : swappedStores [.Tuple [.Subscript o b ps, .Subscript o2 b2 ps2] kt pt] (.Tuple es k2 pt2) X.env = pure none := by rfl)
    (h1 : (assignEach [.Tuple [.Subscript o b ps, .Subscript o2 b2 ps2] kt pt] X.env).map (·.2) = [assign (.Tuple [.Subscript o b ps, .Subscript o2 b2 ps2] kt pt) X.env] := by rfl)
    (hn : (assignEach [.Subscript o b ps, .Subscript o2 b2 ps2] X.env).length = 2 := by rfl) (hst : (assignEach [.Subscript o b ps, .Subscript o2 b2 ps2] X.env).findIdx? (·.1) = none := by rfl)
    (hs1 : (assignEach [.Subscript o b ps, .Subscript o2 b2 ps2] X.env).map (·.2) = assign (.Subscript o b ps) X.env :: (assignEach [.Subscript o2 b2 ps2] X.env).map (·.2) := by rfl)
    (hs2 : (assignEach [.Subscript o2 b2 ps2] X.env).map (·.2) = assign (.Subscript o2 b2 ps2) X.env :: (assignEach [] X.env).map (·.2) := by rfl)
    (ha : ∀ v, assign (.Subscript o b ps) X.env v = (do
      let ov ← holding [v] (eval o X.env)
      let iv ← holding [v, ov] (eval b X.env)
      standAt ps
      holding [v, ov, iv] (setItem ov iv v)
      release [v, ov, iv] []) := by intro _; rfl)
    (ha2 : ∀ v, assign (.Subscript o2 b2 ps2) X.env v = (do
      let ov ← holding [v] (eval o2 X.env)
      let iv ← holding [v, ov] (eval b2 X.env)
      standAt ps2
      holding [v, ov, iv] (setItem ov iv v)
      release [v, ov, iv] []) := by intro _; rfl) : SS X W (.Assign [.Tuple [.Subscript o b ps, .Subscript o2 b2 ps2] kt pt] (.Tuple es k2 pt2) pos) (sPut2 fo fi fo2 fi2 f) :=
  ps_weak (ps_asg he (pg_tup hc (pgs_cons (pg_sub ho hi set_list ha) (pgs_cons (pg_sub ho2 hi2 set_list ha2) pgs_nil hs2) hs1) hn hst) hs hw h1) fun D σ H ⟨m, sg, st, e, rm, rs, hp⟩ => ⟨m, sg, st, e, rm, rs, by
    have hp' := flwc (r := rPut2 fo fi fo2 fi2 f sg st) (R := fun _ _ _ => True) (β := Unit) (Q := fun _ H3 => D.nx σ H3) hp rs fun m1 y v st1 e1 r1 q1 hp1 => hp1 m1 _ (Ext.refl _) r1 (rs.mono e1)
    unfold rPut2 at hp'
    refine hp'.bindc fun m1 d v st1 e1 r1 q1 hp1 => ?_
    split at hp1
    · rename_i d1 d2
      cases q1 with
      | tup t1 t2 =>
        obtain ⟨v1, v2, rfl, qa, qb⟩ := reps2 (X := X) t2
        refine ⟨_, _, rfl, sqT_mono r1.sub t1, rfl, v1, _, rfl, m1, sg, st1, rfl, r1, rs.mono e1, hp1.bindc fun m2 x w st2 e2 r2 q2 hp2 => ⟨m2, sg, st2, rfl, r2, (rs.mono e1).mono e2, hp2.bindc fun m3 i u st3 e3 r3 q3 hp3 => ?_⟩⟩
        split at hp3
        · rename_i i
          split at hp3
          · rename_i st4 hst
            cases q3
            obtain ⟨a, vs, j, rfl, k1, kj, e4, r4⟩ := set_put hst (q2.mono e3) r3 ((qa.mono e2).mono e3)
            refine ⟨_, vs, i, j, rfl, rfl, k1, kj, v2, _, rfl, m3.put a (.lst (vs.set j v1)), sg, st4, rfl, r4, (((rs.mono e1).mono e2).mono e3).mono e4, ?_⟩
            refine Post.bindc (x := fo2 sg st4) (Post.mono hp3 e4) fun m5 y w5 st5 e5 r5 q5 hp5 => ⟨m5, sg, st5, rfl, r5, ((((rs.mono e1).mono e2).mono e3).mono e4).mono e5, hp5.bindc fun m6 jj u6 st6 e6 r6 q6 hp6 => ?_⟩
            split at hp6
            · rename_i jj
              split at hp6
              · rename_i st7 hst7
                cases q6
                obtain ⟨a2, vs2, j2, rfl, n1, nj, e7, r7⟩ := set_put hst7 (q5.mono e6) r6 ((((qb.mono e2).mono e3).mono e4).mono e5 |>.mono e6)
                exact ⟨_, vs2, jj, j2, rfl, rfl, n1, nj, rfl, hp6 _ () e7 r7 trivial⟩
              · exact False.elim hp6
            · exact False.elim hp6
          · exact False.elim hp3
        · exact False.elim hp3
    · exact False.elim hp1⟩
end
/-! a, b, .. = a list -/
section
variable {X : Cx} {W : We} {e : Expr} {f : EF} {pos : Pos}
@[simp] def sAsgL (l : List Nat) (f : EF) : SF := fun sg st => (f sg st).flw sg fun d st1 => match lstOf d st1 with
  | some ds => (match setT (.many l) (.tup ds) sg with
    | some sg1 => .nx sg1 st1
    | none => .bad)
  | none => .bad
theorem ss_asgL {es : List Expr} {k : Nat} {ps : Pos} {l : List Nat} (hc : X.calm = true) (h : PGs X es (gNs l)) (he : SE X W e f) (hn : (assignEach es X.env).length = l.length := by rfl) (hst : (assignEach es X.env).findIdx? (·.1) = none := by rfl)
    (hs : swapsWithSole [.Tuple es k ps] e pos.line X.env = pure false := by rfl) (hw : swappedStores [.Tuple es k ps] e X.env = pure none := by rfl) (h1 : (assignEach [.Tuple es k ps] X.env).map (·.2) = [assign (.Tuple es k ps) X.env] := by rfl) : SS X W (.Assign [.Tuple es k ps] e pos) (sAsgL l f) :=
  ps_weak (ps_asg he (pg_unl hc h hn hst) hs hw h1) fun D σ H ⟨m, sg, st, e, rm, rs, hp⟩ => ⟨m, sg, st, e, rm, rs, flwc hp rs fun m1 y v st1 e1 r1 q1 hp1 => by
    split at hp1
    · rename_i ds hd
      split at hp1
      · rename_i sg1 hh
        obtain ⟨p, vs, rfl, sq, rr⟩ := lst_of r1 q1 hd
        obtain ⟨a1, a2⟩ := setL_rep (by simpa using hh) rr (rs.mono e1)
        exact ⟨_, _, rfl, sq, a2, gNs_of a2 (hp1 m1 _ (Ext.refl _) r1 a1)⟩
      · exact False.elim hp1
    · exact False.elim hp1⟩
end
end Sh
/-! Part ZA: dicts of the store read, asked, set, popped; objects that stay in the store. -/
namespace Sh
open PySem L2 He
section
variable {X : Cx} {W : We} {e o b : Expr} {f fo fi fe : EF} {pos ps apos cpos : Pos}
/-- d[k] -/
def dDget (x k : D) (st : Sto) : Res D := match x, dKey k with
  | .loc n, some k => match kvS st[n]? with
    | some l => match getD l k with
      | some d => .ok d st
      | none => .bad
    | none => .bad
  | _, _ => .bad
@[simp] def fDget (fo fi : EF) : EF := fun sg st => (fo sg st).bind fun x st1 => (fi sg st1).bind fun k st2 => dDget x k st2
theorem se_dget (hu : X.A.units + 1 < cLine) (ho : SE X W o fo) (hi : SE X W b fi) (hs : NoSl b) : SE X W (.Subscript o b pos) (fDget fo fi) :=
  pe_weak (pe_dget hu ho hi hs) fun σ H Q ⟨m, sg, st, e, rm, rs, hp⟩ => ⟨m, sg, st, e, rm, rs, hp.bindc fun m1 x v st1 e1 r1 q1 hp1 => ⟨m1, sg, st1, rfl, r1, rs.mono e1, hp1.bindc fun m2 k w st2 e2 r2 q2 hp2 => by
    unfold dDget at hp2
    split at hp2
    · rename_i n k' hk
      split at hp2
      · rename_i l hl
        split at hp2
        · rename_i d hd
          obtain ⟨a, kvs, rfl, k1, k2⟩ := dict_rd r2 (q1.mono e2) hl
          have := key_rep q2 hk
          subst this
          rcases k2.get k' with ⟨h1, h2⟩ | ⟨d', v', h1, h2, h3⟩
          · rw [h1] at hd; cases hd
          · rw [h1] at hd
            cases hd
            exact ⟨a, v', rfl, by have z := DGet.kR (k := k') k1; rw [h2] at z; exact z, hp2.okc r2 h3⟩
        · exact False.elim hp2
      · exact False.elim hp2
    · exact False.elim hp2⟩⟩
/-- k in d -/
def dInD (neg : Bool) : D → D → Sto → Res D := fun k x st => match x, dKey k with
  | .loc n, some k => match kvS st[n]? with
    | some l => .ok (.bl (if neg then !(getD l k).isSome else (getD l k).isSome)) st
    | none => .bad
  | _, _ => .bad
abbrev rInD : R2 := fun x y H Q => ∃ a o, y = .ref a ∧ DGet H a x o ∧ Q (.bl o.isSome) H
abbrev rNotInD : R2 := fun x y H Q => ∃ a o, y = .ref a ∧ DGet H a x o ∧ Q (.bl (!o.isSome)) H
theorem op_inD (hu : X.A.units + 1 < cLine) : OpR X (compareOp .In) rInD := by
  intro pins s σ H x y v u Q I rx ry h
  obtain ⟨a, o, rfl, g, q⟩ := h
  obtain rfl : u = Value.ref a := ry
  exact d_in hu I g rx fun s' I' => ⟨.bl o.isSome, H, I', rfl, q⟩
theorem op_notInD (hu : X.A.units + 1 < cLine) : OpR X (compareOp .NotIn) rNotInD := by
  intro pins s σ H x y v u Q I rx ry h
  obtain ⟨a, o, rfl, g, q⟩ := h
  obtain rfl : u = Value.ref a := ry
  exact d_notIn hu I g rx fun s' I' => ⟨.bl (!o.isSome), H, I', rfl, q⟩
theorem fits_inD : Fits2 X W rInD (dInD false) := by
  intro m st σ x y v w Q rm ra rb hp
  unfold dInD at hp
  split at hp
  · rename_i n k' hk
    split at hp
    · rename_i l hl
      obtain ⟨a, kvs, rfl, k1, k2⟩ := dict_rd rm rb hl
      have := key_rep ra hk
      subst this
      refine ⟨a, _, rfl, DGet.kR k1, ?_⟩
      have e : (valV kvs k').isSome = (getD l k').isSome := by
        rcases k2.get k' with ⟨h1, h2⟩ | ⟨d', v', h1, h2, h3⟩ <;> rw [h1, h2] <;> rfl
      rw [e]
      exact hp.okc rm (.bl _)
    · exact False.elim hp
  · exact False.elim hp
theorem fits_notInD : Fits2 X W rNotInD (dInD true) := by
  intro m st σ x y v w Q rm ra rb hp
  unfold dInD at hp
  split at hp
  · rename_i n k' hk
    split at hp
    · rename_i l hl
      obtain ⟨a, kvs, rfl, k1, k2⟩ := dict_rd rm rb hl
      have := key_rep ra hk
      subst this
      refine ⟨a, _, rfl, DGet.kR k1, ?_⟩
      have e : (valV kvs k').isSome = (getD l k').isSome := by
        rcases k2.get k' with ⟨h1, h2⟩ | ⟨d', v', h1, h2, h3⟩ <;> rw [h1, h2] <;> rfl
      rw [e]
      exact hp.okc rm (.bl _)
    · exact False.elim hp
  · exact False.elim hp
/-- d[k] = x -/
def stDict (x k d : D) (st : Sto) : Option Sto := match x, dKey k with
  | .loc n, some k => match st[n]? with
    | some (.dict l) => if l.length < 16777216 then some (st.set n (.dict (putD l k d))) else none
    | _ => none
  | _, _ => none
theorem dict_put {m : Hw} {st st4 : Sto} {x k d : D} {w wk v : V} (hst : stDict x k d st = some st4) (q : Rep X.K X.mg m.r m.g x w) (qk : Rep X.K X.mg m.r m.g k wk) (rm : Rel X.K X.mg m st) (q1 : Rep X.K X.mg m.r m.g d v) :
    ∃ a kvs', w = .ref a ∧ DPut m.h a wk v (upd m.h a (.dK kvs')) ∧ Ext m (m.put a (.dK kvs')) ∧ Rel X.K X.mg (m.put a (.dK kvs')) st4 := by
  unfold stDict at hst
  split at hst
  · rename_i n k' hk
    split at hst
    · rename_i l hl
      split at hst
      · rename_i hz
        cases hst
        obtain ⟨a, kvs, rfl, k1, k2⟩ := dict_at rm q hl
        have := key_rep qk hk
        subst this
        have hm := k2.put (k := k') q1
        have hlen : kvs.length < sizeLine := by
          have z := congrArg List.length k2.to.1
          simp at z
          rw [z]
          exact (show l.length < sizeLine from hz)
        cases q with
        | loc hr => exact ⟨a, _, rfl, .inl ⟨kvs, k', k1, rfl, hlen, rfl⟩, Ext.put (List.mem_of_getElem? hr), rm.put hr ⟨_, upd_same, hm.to.1, hm.to.2⟩⟩
      · cases hst
    · cases hst
  · cases hst
def rDput (fo fi f : EF) : Sg → Sto → Res Unit := fun sg st => (f sg st).bind fun d st1 => (fo sg st1).bind fun x st2 => (fi sg st2).bind fun i st3 => match stDict x i d st3 with
  | some st4 => .ok () st4
  | none => .bad
@[simp] def sDput (fo fi f : EF) : SF := fun sg st => (rDput fo fi f sg st).flw sg fun _ st4 => .nx sg st4
theorem ss_dput (hu : X.A.units + 1 < cLine) (ho : SE X W o fo) (hi : SE X W b fi) (he : SE X W e f) (hs : swapsWithSole [.Subscript o b ps] e pos.line X.env = pure false := by rfl) (hw : swappedStores [.Subscript o b ps] e X.env = pure none := by rfl) (h1 : (assignEach [.Subscript o b ps] X.env).map (·.2) = [assign (.Subscript o b ps) X.env] := by rfl)
    (ha : ∀ v, assign (.Subscript o b ps) X.env v = (do
      let ov ← holding [v] (eval o X.env)
      let iv ← holding [v, ov] (eval b X.env)
      standAt ps
      holding [v, ov, iv] (setItem ov iv v)
      release [v, ov, iv] []) := by intro _; rfl) : SS X W (.Assign [.Subscript o b ps] e pos) (sDput fo fi f) :=
  ps_weak (ps_asg he (pg_sub ho hi (set_dict hu) ha) hs hw h1) fun D σ H ⟨m, sg, st, e, rm, rs, hp⟩ => ⟨m, sg, st, e, rm, rs, by
    have hp' := flwc (r := rDput fo fi f sg st) (R := fun _ _ _ => True) (β := Unit) (Q := fun _ H3 => D.nx σ H3) hp rs fun m1 y v st1 e1 r1 q1 hp1 => hp1 m1 _ (Ext.refl _) r1 (rs.mono e1)
    unfold rDput at hp'
    refine hp'.bindc fun m1 d v st1 e1 r1 q1 hp1 => ⟨m1, sg, st1, rfl, r1, rs.mono e1, hp1.bindc fun m2 x w st2 e2 r2 q2 hp2 => ⟨m2, sg, st2, rfl, r2, (rs.mono e1).mono e2, hp2.bindc fun m3 i u st3 e3 r3 q3 hp3 => ?_⟩⟩
    split at hp3
    · rename_i st4 hst
      obtain ⟨a, kvs', rfl, dp, e4, r4⟩ := dict_put hst (q2.mono e3) q3 r3 ((q1.mono e2).mono e3)
      exact ⟨_, _, rfl, dp, hp3 _ () e4 r4 trivial⟩
    · exact False.elim hp3⟩
/-- d.pop(k) -/
def dropD (l : List (Key × D)) (k : Key) : List (Key × D) := l.filter fun kv => decide (kv.1 ≠ k)
theorem KRel.drop {K : PySem.W.Frag} {mg : Str → Option Value} {r : List Addr} {G : Hp} {l : List (Key × D)} {vs : List (Key × V)} (h : KRel K mg r G l vs) (k : Key) : KRel K mg r G (dropD l k) (dropK vs k) := by
  unfold dropD dropK
  induction h with
  | nil => exact .nil
  | @cons k' d' v' l vs h t ih =>
    simp only [List.filter_cons]
    by_cases e : k' = k
    · simp only [e, ne_eq, not_true_eq_false, decide_false, Bool.false_eq_true, if_false]; exact ih
    · simp only [ne_eq, e, not_false_eq_true, decide_true, if_true]; exact .cons h ih
def dDpop (x k : D) (st : Sto) : Res D := match x, dKey k with
  | .loc n, some k => match st[n]? with
    | some (.dict l) => match getD l k with
      | some d => .ok d (st.set n (.dict (dropD l k)))
      | none => .bad
    | _ => .bad
  | _, _ => .bad
@[simp] def fDpop (fo fi : EF) : EF := fun sg st => (fo sg st).bind fun x st1 => if isDict x st1 = true then ((fi sg st1).bind fun k st2 => dDpop x k st2) else .bad
theorem se_dpop (ho : SE X W o fo) (hi : SE X W b fi) (m : M1 X o "pop" apos b cpos) : SE X W (.Call (.Attribute o "pop" apos) [b] [] cpos) (fDpop fo fi) :=
  pe_weak (pe_dpop1 ho hi m) fun σ H Q ⟨m, sg, st, e, rm, rs, hp⟩ => ⟨m, sg, st, e, rm, rs, hp.bindc fun m1 x v st1 e1 r1 q1 hp1 => by
    split at hp1
    · rename_i hd
      obtain ⟨a, rfl, ia⟩ := isDict_at r1 q1 hd
      refine ⟨a, rfl, ia, m1, sg, st1, rfl, r1, rs.mono e1, hp1.bindc fun m2 k w st2 e2 r2 q2 hp2 => ?_⟩
      unfold dDpop at hp2
      split at hp2
      · rename_i n k' hk
        split at hp2
        · rename_i l hl
          split at hp2
          · rename_i d hd
            obtain ⟨a', kvs, ea, k1, k2⟩ := dict_at r2 (q1.mono e2) hl
            cases ea
            have := key_rep q2 hk
            subst this
            rcases k2.get k' with ⟨h1, h2⟩ | ⟨d', v', h1, h2, h3⟩
            · rw [h1] at hd; cases hd
            · rw [h1] at hd
              cases hd
              have hm := k2.drop k'
              cases q1.mono e2 with
              | loc hr =>
                have ex : Ext m2 (m2.put a (.dK (dropK kvs k'))) := Ext.put (List.mem_of_getElem? hr)
                exact ⟨kvs, k', v', k1, rfl, h2, hp2 (m2.put a (.dK (dropK kvs k'))) v' ex (r2.put hr ⟨_, upd_same, hm.to.1, hm.to.2⟩) (h3.mono ex)⟩
          · exact False.elim hp2
        · exact False.elim hp2
      · exact False.elim hp2
    · exact False.elim hp1⟩
end
end Sh
/-! Part ZB: objects that stay in the store. -/
namespace Sh
open PySem L2
section
variable {X : Cx} {W : We} {e : Expr} {es : List Expr} {g : AF} {pos p : Pos} {x : Str} {k n : Nat} {fn C fa : Addr} {fd : FuncData} {ps : List Str} {F : FF} {dvs : List V} {ds : List Value} {dds : List D}
def mkLG (c : Nat) (Fk : D → Sto → Res D) : Sto → Res D := fun st => match Fk (.loc st.length) (st ++ [.ins c []]) with
  | .ok .non st2 => .ok (.loc st.length) st2
  | .exc c o st2 => .exc c o st2
  | _ => .bad
def mkL (c : Nat) (F : FF) (n : Nat) (dds : List D) : FF := fun l st => mkLG c (fun x => cF F n dds (x :: l)) st
theorem mkLG_post {ci : Nat} {σ : St} {w : Hw} {stt : Sto} {Fk : D → Sto → Res D} {Q : VK} (rm : Rel X.K X.mg w stt) (hp : Post X.K X.mg W.w w σ (RD X.K X.mg) Q (mkLG ci Fk stt)) :
    ∀ x dx, w.h x = none → w.h dx = none → dx ≠ x → Post X.K X.mg W.w ⟨w.r ++ [x], w.g, upd (upd w.h dx (.own x)) x (.ins C dx [])⟩ σ (RD X.K X.mg) (fun v H2 => v = .non ∧ Q (.ref x) H2) (Fk (.loc stt.length) (stt ++ [.ins ci []])) := by
  intro x dx hx hdx hne
  have e0 : Ext w ⟨w.r ++ [x], w.g, upd (upd w.h dx (.own x)) x (.ins C dx [])⟩ := by
    refine ⟨⟨[x], rfl⟩, fun _ _ z => z, fun a u q n => ⟨?_, ?_, fun z => z⟩⟩
    · show upd (upd w.h dx (.own x)) x (.ins C dx []) a = some u
      rw [upd_ne (ne_of_none q hx), upd_ne (ne_of_none q hdx)]; exact q
    · have : a ≠ x := ne_of_none q hx
      show a ∉ w.r ++ [x]
      simp [n, this]
  unfold mkLG at hp
  split at hp
  · rename_i st2 hq
    rw [hq]
    intro m' v e1 r1 q1
    cases q1
    have hat : m'.r[stt.length]? = some x := e1.at_ (by
      show (w.r ++ [x])[stt.length]? = _
      rw [← rm.len, List.getElem?_append_right (Nat.le_refl _)]
      simp)
    exact ⟨rfl, hp m' (.ref x) (e0.trans e1) r1 (.loc hat)⟩
  · rename_i c o st2 hq
    rw [hq]
    intro m' cls dx' e1 r1 q1
    exact hp m' cls dx' (e0.trans e1) r1 q1
  · exact False.elim hp
theorem se_makeL {ci : Nat} (h : DefOk X.prog X.w X.K X.mg X.base k fa ps dvs F) (j : Nat) (hj : j ≤ dvs.length) (hd : ∀ r G, Reps X.K X.mg r G dds (dvs.drop j)) (hr : Room (k + 1) X.A) (tk : Takes X W.w) (hc : X.mg (cName ci) = some (.ref C)) (M : Mk X.K C fa) (hg : Gl X x) (hm : X.mg x = some (.ref C))
    (ha : SA X W (e :: es) g) (hdb : (x == ("__debug__" : Str)) = false := by decide) (he : starEach (e :: es) X.env = (false, eval e X.env) :: starEach es X.env := by rfl) (hpl : (backTo pos (starEach es X.env)).any (·.1) = false := by rfl) :
    SE X W (.Call (.Name x p) (e :: es) [] pos) (fCall (mkL ci F ps.length dds) g) := by
  obtain ⟨⟨fd, hF, h2, _⟩, h3⟩ := h
  obtain ⟨ds, v, hb⟩ := h2 j hj
  have hd : Dfl X.K X.mg ds (dvs.drop j) dds := ⟨v, hd⟩
  refine ⟨fun pins s σ H Q I h => ?_⟩
  obtain ⟨w, sg, st, rfl, rm, rs, hp⟩ := h
  refine wpAny_Call_Name_kw (ld_glob I hg hm ?_ hdb)
  refine PySem.W.callWith_K (h₀ := X.base) I.ok.mod.kin M.kp (thn (ha.run pos pins s σ w.h (fun vs H2 => ∃ m2 l st2, m2.h = H2 ∧ Rel X.K X.mg m2 st2 ∧ Reps X.K X.mg m2.r m2.g l vs ∧ Post X.K X.mg W.w m2 σ (RD X.K X.mg) Q (mkL ci F ps.length dds l st2)) I
    ⟨w, sg, st, rfl, rm, rs, hp.bindc fun m2 l vs st2 e2 r2 q2 hp2 => ⟨m2, l, st2, rfl, r2, q2, hp2⟩⟩) fun us s1 hz => ?_) he hpl
  obtain ⟨vs, H2, I2, rv2, m2, l, st2, rfl, r2, q2, hp2⟩ := hz
  exact ⟨I2.kIn, run_makeS hc M hF hr tk hb hd I2 rv2 r2 q2 (mkLG_post (Fk := fun x => cF F ps.length dds (x :: l)) r2 hp2)⟩
theorem se_makeL0 {ci : Nat} (h : DefOk X.prog X.w X.K X.mg X.base k fa ps dvs F) (j : Nat) (hj : j ≤ dvs.length) (hd : ∀ r G, Reps X.K X.mg r G dds (dvs.drop j)) (hr : Room (k + 1) X.A) (tk : Takes X W.w) (hc : X.mg (cName ci) = some (.ref C)) (M : Mk X.K C fa) (hg : Gl X x) (hm : X.mg x = some (.ref C))
    (hdb : (x == ("__debug__" : Str)) = false := by decide) : SE X W (.Call (.Name x p) [] [] pos) (fCall (mkL ci F ps.length dds) aNil) := by
  obtain ⟨⟨fd, hF, h2, _⟩, h3⟩ := h
  obtain ⟨ds, v, hb⟩ := h2 j hj
  have hd : Dfl X.K X.mg ds (dvs.drop j) dds := ⟨v, hd⟩
  refine ⟨fun pins s σ H Q I h => ?_⟩
  obtain ⟨w, sg, st, rfl, rm, rs, hp⟩ := h
  refine wpAny_Call_Name_kw (ld_glob I hg hm ?_ hdb)
  exact PySem.W.callWith_K0 I.kIn M.kp (run_makeS (us := []) hc M hF hr tk hb hd I .nil rm .nil (mkLG_post (Fk := fun x => cF F ps.length dds (x :: [])) rm hp))
end
/-! o.x += e -/
section
variable {X : Cx} {W : We} {e o : Expr} {f fo : EF} {pos tpos : Pos} {m : Str} {C : Addr} {sem : D → D → Sto → Res D} {r : TIp} {op : Operator}
def rAugF (c i : Nat) (sem : D → D → Sto → Res D) (fo f : EF) : Sg → Sto → Res Unit := fun sg st => (fo sg st).bind fun x st1 => match x with
  | .loc n => match st1[n]? with
    | some (.ins c' l) => if c' = c then (match l[i]? with
      | some d => (f sg st1).bind fun y st2 => (sem d y st2).bind fun z st3 => match st3[n]? with
        | some (.ins c2 l2) => if c2 = c ∧ i < l2.length then .ok () (st3.set n (.ins c (l2.set i z))) else .bad
        | _ => .bad
      | none => .bad) else .bad
    | _ => .bad
  | _ => .bad
@[simp] def sAugF (c i : Nat) (sem : D → D → Sto → Res D) (fo f : EF) : SF := fun sg st => (rAugF c i sem fo f sg st).flw sg fun _ st4 => .nx sg st4
theorem ss_augF {ci i : Nat} (hc : X.mg (cName ci) = some (.ref C)) (cl : Cls X.K C) (na : NoAttr X.K C m) (hf : (cFlds ci)[i]? = some m) (hnd : (cFlds ci).Nodup) (hlen : (cFlds ci).length < 1000) (ho : SE X W o fo) (he : SE X W e f) (hop : PIp X op r) (hs : Fits2 X W r sem) :
    SS X W (.AugAssign (.Attribute o m tpos) op e pos) (sAugF ci i sem fo f) :=
  ps_weak (ps_fldaug ho he hop) fun D σ H ⟨w, sg, st, e, rm, rs, hp⟩ => ⟨w, sg, st, e, rm, rs, by
    have hp' := flwc (r := rAugF ci i sem fo f sg st) (R := fun _ _ _ => True) (β := Unit) (Q := fun _ H3 => D.nx σ H3) hp rs fun m1 y v st1 e1 r1 q1 hp1 => hp1 m1 _ (Ext.refl _) r1 (rs.mono e1)
    unfold rAugF at hp'
    refine hp'.bindc fun m1 x u st1 e1 r1 q1 hp1 => ?_
    split at hp1
    · rename_i n
      split at hp1
      · rename_i c' l hl
        split at hp1
        · rename_i hcc
          subst hcc
          split at hp1
          · rename_i d hd
            cases q1 with
            | loc hr =>
              obtain ⟨C', dx, fs, k1, k2, k3, k4⟩ := r1.obj _ _ _ hr hl
              rw [hc] at k1
              cases k1
              obtain ⟨v, hv, qv⟩ := k4.get hd
              have hi : i < l.length := (List.getElem?_eq_some_iff.mp hd).1
              refine ⟨_, C, dx, fs, v, rfl, k2, cl, na, lookup_at k3 (hnd.sublist (List.take_sublist _ _)) (take_at hf hi) hv, m1, sg, st1, rfl, r1, rs.mono e1, hp1.bindc fun m2 y wy st2 e2 r2 q2 hp2 => ?_⟩
              refine hs m2 st2 σ d y v wy _ r2 (qv.mono e2) q2 (hp2.bindc fun m3 z wz st3 e3 r3 q3 hp3 => ?_)
              split at hp3
              · rename_i c2 l2 hl2
                split at hp3
                · rename_i hcc
                  obtain ⟨rfl, hi2⟩ := hcc
                  have hr3 := e3.at_ (e2.at_ hr)
                  obtain ⟨C2, dx2, fs2, j1, j2, j3, j4⟩ := r3.obj _ _ _ hr3 hl2
                  rw [hc] at j1
                  cases j1
                  have hlf : fs2.length = l2.length := by have := j4.length; simpa using this.symm
                  have hll : l2.length ≤ (cFlds c2).length := by
                    have z := congrArg List.length j3
                    simp at z
                    omega
                  obtain ⟨z1, z2⟩ := putF_old (y := wz) j3 (hnd.sublist (List.take_sublist _ _)) (take_at hf hi2)
                  exact ⟨dx2, fs2, j2, by omega, hp3 (m3.put _ (.ins C dx2 (putF m wz fs2))) () (Ext.put (List.mem_of_getElem? hr3)) (r3.put hr3 ⟨C, dx2, _, hc, upd_same, by rw [z1]; simp [j3], by rw [z2]; exact j4.set q3 i⟩) trivial⟩
                · exact False.elim hp3
              · exact False.elim hp3
          · exact False.elim hp1
        · exact False.elim hp1
      · exact False.elim hp1
    · exact False.elim hp1⟩
end
/-- {} that changes -/
def fNewD : EF := fun _ st => .ok (.loc st.length) (st ++ [.dict []])
theorem se_newD {X : Cx} {W : We} {x : Expr} (h : PE X x (fun _ H Q => ∀ d, H d = none → Q (.ref d) (upd H d (.dK [])))) : SE X W x fNewD := pe_weak h fun σ H Q ⟨m, sg, st, em, rm, rs, hp⟩ => by
  subst em
  intro p hn
  have at0 : (m.new p (.dK [])).r[st.length]? = some p := by
    show (m.r ++ [p])[st.length]? = _
    rw [← rm.len, List.getElem?_append_right (Nat.le_refl _)]
    simp
  exact hp (m.new p (.dK [])) (.ref p) (Ext.new rm hn) (rm.new hn ⟨[], upd_same, rfl, .nil⟩) (.loc at0)
end Sh
/-! Part ZC: a dict that is walked is locked; the suite leaves the store as it was. -/
namespace Sh
open PySem L2 He
def Flw.atSt (s : Sto) : Flw → Flw
  | .nx sg _ => .nx sg s
  | .ret d _ => .ret d s
  | .brk sg _ => .brk sg s
  | .cnt sg _ => .cnt sg s
  | .exc c o sg _ => .bad
  | .bad => .bad
def lockAt (st : Sto) (n : Nat) (l : List (Key × D)) (o : Obj) (kvs : List (Key × V)) : Sto := st.set n (.lock l o kvs)
open Classical in
noncomputable def sLock (fo : EF) (g : SF) : SF := fun sg st => match fo sg st with
  | .ok (.loc n) _ => match st[n]? with
    | some (.dict l) => if h : ∃ w : Flw, ∀ o kvs, g sg (lockAt st n l o kvs) = w.atSt (lockAt st n l o kvs) then (Classical.choose h).atSt st else .bad
    | _ => .bad
  | _ => .bad
theorem atSt_eq {w w' : Flw} {s s' : Sto} (h : w.atSt s = w'.atSt s) : w.atSt s' = w'.atSt s' := by
  cases w <;> cases w' <;> simp [Flw.atSt] at h ⊢ <;> exact h
theorem sLock_eq {fo : EF} {g : SF} {sg : Sg} {st st' : Sto} {n : Nat} {l : List (Key × D)} {w : Flw} (e : fo sg st = .ok (.loc n) st') (hn : st[n]? = some (.dict l)) (h : ∀ o kvs, g sg (lockAt st n l o kvs) = w.atSt (lockAt st n l o kvs)) : sLock fo g sg st = w.atSt st := by
  unfold sLock
  rw [e]
  dsimp only
  rw [hn]
  dsimp only
  have hx : ∃ w : Flw, ∀ o kvs, g sg (lockAt st n l o kvs) = w.atSt (lockAt st n l o kvs) := ⟨w, h⟩
  rw [dif_pos hx]
  let o : Obj := { cls := .type "dict", dict := none, data := .dict #[] 0, slots := #[] }
  have a := Classical.choose_spec hx o []
  have b := h o []
  rw [a] at b
  exact atSt_eq b
section
variable {X : Cx} {W : We} {s : Stmt}
theorem ss_lock {fo : EF} {g : SF} (h : SS X W s g) : SS X W s (sLock fo g) :=
  ps_weak (ps_lock h) fun D σ H ⟨m, sg, st, e, rm, rs, hp⟩ => by
    subst e
    unfold sLock at hp
    split at hp
    · rename_i n st' hf
      split at hp
      · rename_i l hl
        split at hp
        · rename_i hx
          have hn : n < st.length := (List.getElem?_eq_some_iff.mp hl).1
          have hr : n < m.r.length := by rw [rm.len]; exact hn
          have ra : m.r[n]? = some m.r[n] := List.getElem?_eq_getElem hr
          obtain ⟨kvs, k1, k2, k3⟩ := rm.obj n m.r[n] _ ra hl
          generalize m.r[n] = a at ra k1
          have am : a ∈ m.r := List.mem_of_getElem? ra
          refine ⟨a, .dK kvs, k1, trivial, fun od => ?_⟩
          have w := Classical.choose_spec hx od kvs
          have e1 : Ext m (m.put a (.frz od (.dK kvs))) := Ext.put am
          have r1 : Rel X.K X.mg (m.put a (.frz od (.dK kvs))) (lockAt st n l od kvs) := rm.put ra ⟨upd_same, k2, k3⟩
          refine ⟨m.put a (.frz od (.dK kvs)), sg, lockAt st n l od kvs, rfl, r1, rs.mono e1, ?_⟩
          rw [w]
          have ln : (lockAt st n l od kvs)[n]? = some (.lock l od kvs) := by unfold lockAt; simp [hn]
          have back : (lockAt st n l od kvs).set n (.dict l) = st := by
            unfold lockAt
            rw [List.set_set]
            have := (List.getElem?_eq_some_iff.mp hl).2
            rw [← this, List.set_getElem_self]
          have key : ∀ m2 : Hw, Ext (m.put a (.frz od (.dK kvs))) m2 → Rel X.K X.mg m2 (lockAt st n l od kvs) → m2.h a = some (.frz od (.dK kvs)) ∧ Ext m (m2.put a (.dK kvs)) ∧ Ext m2 (m2.put a (.dK kvs)) ∧ Rel X.K X.mg (m2.put a (.dK kvs)) st := fun m2 e2 r2 => by
            have ra2 : m2.r[n]? = some a := e2.at_ (e1.at_ ra)
            obtain ⟨j1, j2, j3⟩ := r2.obj n a _ ra2 ln
            have e3 : Ext m2 (m2.put a (.dK kvs)) := Ext.put (List.mem_of_getElem? ra2)
            refine ⟨j1, (e1.trans e2).trans e3, e3, ?_⟩
            have := r2.put (so := .dict l) ra2 ⟨kvs, upd_same, j2, j3⟩
            rwa [back] at this
          generalize Classical.choose hx = c at hp
          cases c with
          | nx sg2 s2 => exact fun m2 σ2 e2 r2 s2 => let ⟨a1, a2, a3, a4⟩ := key m2 e2 r2; ⟨a1, hp _ σ2 a2 a4 (s2.mono a3)⟩
          | ret d s2 => exact fun m2 v e2 r2 q2 => let ⟨a1, a2, a3, a4⟩ := key m2 e2 r2; ⟨a1, hp _ v a2 a4 (q2.mono a3)⟩
          | brk sg2 s2 => exact fun m2 σ2 e2 r2 s2 => let ⟨a1, a2, a3, a4⟩ := key m2 e2 r2; ⟨a1, hp _ σ2 a2 a4 (s2.mono a3)⟩
          | cnt sg2 s2 => exact fun m2 σ2 e2 r2 s2 => let ⟨a1, a2, a3, a4⟩ := key m2 e2 r2; ⟨a1, hp _ σ2 a2 a4 (s2.mono a3)⟩
          | exc _ _ _ _ => exact False.elim hp
          | bad => exact False.elim hp
        · exact False.elim hp
      · exact False.elim hp
    · exact False.elim hp
end
/-! the walks of a locked dict -/
def kyD : Key → D
  | .inl i => .int i
  | .inr x => .str x
theorem kyD_rep {K : PySem.W.Frag} {mg : Str → Option Value} {r : List Addr} {G : Hp} : ∀ k : Key, Rep K mg r G (kyD k) (kV k)
  | .inl i => .int i
  | .inr x => .str x
@[simp] def iItemsD (f : EF) : IF := fun sg st => (f sg st).bind fun x st1 => match x with
  | .loc n => match st1[n]? with
    | some (.lock l o kvs) => .ok ⟨l.map fun kv => .tup [kyD kv.1, kv.2], fun st => st[n]? = some (.lock l o kvs)⟩ st1
    | _ => .bad
  | _ => .bad
@[simp] def iValsD (f : EF) : IF := fun sg st => (f sg st).bind fun x st1 => match x with
  | .loc n => match st1[n]? with
    | some (.lock l o kvs) => .ok ⟨l.map (·.2), fun st => st[n]? = some (.lock l o kvs)⟩ st1
    | _ => .bad
  | _ => .bad
section
variable {X : Cx} {W : We} {tg e : Expr} {f : EF} {apos cpos tpos : Pos} {elts : List Expr} {kk : Nat}
theorem kv_at {K : PySem.W.Frag} {mg : Str → Option Value} {r : List Addr} {G : Hp} {l : List (Key × D)} {kvs : List (Key × V)} (h2 : kvs.map (·.1) = l.map (·.1)) (h3 : Reps K mg r G (l.map (·.2)) (kvs.map (·.2))) {i : Nat} {k : Key} {d : D} (hd : l[i]? = some (k, d)) : ∃ v, kvs[i]? = some (k, v) ∧ Rep K mg r G d v := by
  have a : (kvs.map (·.1))[i]? = some k := by rw [h2, List.getElem?_map, hd]; rfl
  obtain ⟨v, b, c⟩ := h3.get (i := i) (d := d) (by rw [List.getElem?_map, hd]; rfl)
  rw [List.getElem?_map] at a b
  obtain ⟨x, hx, e1⟩ := Option.map_eq_some_iff.mp a
  rw [hx] at b
  obtain ⟨k', v'⟩ := x
  simp at e1 b
  subst e1; subst b
  exact ⟨v', hx, c⟩
theorem si_items (he : SE X W e f) (hb : attributeBase e "items" X.env (eval e X.env) = eval e X.env := by rfl) (hl : (apos.endLine == cpos.line) = true := by rfl) : SI X W (.Tuple elts kk tpos) (.Call (.Attribute e "items" apos) [] [] cpos) (iItemsD f) :=
  pi_weak (pi_items he hb hl) fun σ H R ⟨m, sg, st, e, rm, rs, hp⟩ => ⟨m, sg, st, e, rm, rs, hp.bindc fun m1 x v st1 e1 r1 q1 hp1 => by
    split at hp1
    · rename_i n
      split at hp1
      · rename_i l o kvs hn
        cases q1 with
        | loc hr =>
          obtain ⟨k1, k2, k3⟩ := r1.obj _ _ _ hr hn
          refine ⟨_, o, kvs, rfl, k1, hp1.okc r1 fun m2 st2 e2 r2 c2 i => ?_⟩
          obtain ⟨j1, j2, j3⟩ := r2.obj _ _ _ (e2.at_ hr) c2
          have hlen : kvs.length = l.length := by have := congrArg List.length j2; simpa using this
          refine ⟨fun hi => ⟨j1, by rw [hlen]; simpa using hi⟩, fun d hd => ?_⟩
          rw [List.getElem?_map] at hd
          obtain ⟨⟨k, dd⟩, hkd, rfl⟩ := Option.map_eq_some_iff.mp hd
          obtain ⟨v, a1, a2⟩ := kv_at j2 j3 hkd
          refine ⟨⟨j1, (List.getElem?_eq_some_iff.mp a1).1⟩, fun y H' ⟨T, k', v', b1, b2, b3, b4⟩ => ?_⟩
          rw [a1] at b1
          cases b1
          subst b2
          rw [b4]
          exact pair_ok r2 b3 (kyD_rep k) a2
      · exact False.elim hp1
    · exact False.elim hp1⟩
theorem si_vals (he : SE X W e f) (hb : attributeBase e "values" X.env (eval e X.env) = eval e X.env := by rfl) (hl : (apos.endLine == cpos.line) = true := by rfl) : SI X W tg (.Call (.Attribute e "values" apos) [] [] cpos) (iValsD f) :=
  pi_weak (pi_values he hb hl) fun σ H R ⟨m, sg, st, e, rm, rs, hp⟩ => ⟨m, sg, st, e, rm, rs, hp.bindc fun m1 x v st1 e1 r1 q1 hp1 => by
    split at hp1
    · rename_i n
      split at hp1
      · rename_i l o kvs hn
        cases q1 with
        | loc hr =>
          obtain ⟨k1, k2, k3⟩ := r1.obj _ _ _ hr hn
          refine ⟨_, o, kvs, rfl, k1, hp1.okc r1 fun m2 st2 e2 r2 c2 i => ?_⟩
          obtain ⟨j1, j2, j3⟩ := r2.obj _ _ _ (e2.at_ hr) c2
          have hlen : kvs.length = l.length := by have := congrArg List.length j2; simpa using this
          refine ⟨fun hi => ⟨j1, by rw [hlen]; simpa using hi⟩, fun d hd => ?_⟩
          rw [List.getElem?_map] at hd
          obtain ⟨⟨k, dd⟩, hkd, rfl⟩ := Option.map_eq_some_iff.mp hd
          obtain ⟨v, a1, a2⟩ := kv_at j2 j3 hkd
          refine ⟨⟨j1, (List.getElem?_eq_some_iff.mp a1).1⟩, fun y H' ⟨b1, k', b2⟩ => ?_⟩
          rw [a1] at b2
          cases b2
          exact ⟨m2, b1.symm, Ext.refl _, r2, a2⟩
      · exact False.elim hp1
    · exact False.elim hp1⟩
end
/-! the same for an expression -/
def Res.atSt {α : Type} (s : Sto) : Res α → Res α
  | .ok d _ => .ok d s
  | _ => .bad
open Classical in
noncomputable def eLock (fo f : EF) : EF := fun sg st => match fo sg st with
  | .ok (.loc n) _ => match st[n]? with
    | some (.dict l) => if h : ∃ w : Res D, ∀ o kvs, f sg (lockAt st n l o kvs) = w.atSt (lockAt st n l o kvs) then (Classical.choose h).atSt st else .bad
    | _ => .bad
  | _ => .bad
theorem ratSt_eq {w w' : Res D} {s s' : Sto} (h : w.atSt s = w'.atSt s) : w.atSt s' = w'.atSt s' := by
  cases w <;> cases w' <;> simp [Res.atSt] at h ⊢ <;> exact h
theorem eLock_eq {fo f : EF} {sg : Sg} {st st' : Sto} {n : Nat} {l : List (Key × D)} {w : Res D} (e : fo sg st = .ok (.loc n) st') (hn : st[n]? = some (.dict l)) (h : ∀ o kvs, f sg (lockAt st n l o kvs) = w.atSt (lockAt st n l o kvs)) : eLock fo f sg st = w.atSt st := by
  unfold eLock
  rw [e]
  dsimp only
  rw [hn]
  dsimp only
  have hx : ∃ w : Res D, ∀ o kvs, f sg (lockAt st n l o kvs) = w.atSt (lockAt st n l o kvs) := ⟨w, h⟩
  rw [dif_pos hx]
  let o : Obj := { cls := .type "dict", dict := none, data := .dict #[] 0, slots := #[] }
  have a := Classical.choose_spec hx o []
  have b := h o []
  rw [a] at b
  exact ratSt_eq b
theorem se_lock {X : Cx} {W : We} {e : Expr} {fo f : EF} (h : SE X W e f) : SE X W e (eLock fo f) :=
  pe_weak (pe_lock h) fun σ H Q ⟨m, sg, st, e, rm, rs, hp⟩ => by
    subst e
    unfold eLock at hp
    split at hp
    · rename_i n st' hf
      split at hp
      · rename_i l hl
        split at hp
        · rename_i hx
          have hn : n < st.length := (List.getElem?_eq_some_iff.mp hl).1
          have hr : n < m.r.length := by rw [rm.len]; exact hn
          have ra : m.r[n]? = some m.r[n] := List.getElem?_eq_getElem hr
          obtain ⟨kvs, k1, k2, k3⟩ := rm.obj n m.r[n] _ ra hl
          generalize m.r[n] = a at ra k1
          have am : a ∈ m.r := List.mem_of_getElem? ra
          refine ⟨a, .dK kvs, k1, trivial, fun od => ?_⟩
          have w := Classical.choose_spec hx od kvs
          have e1 : Ext m (m.put a (.frz od (.dK kvs))) := Ext.put am
          have r1 : Rel X.K X.mg (m.put a (.frz od (.dK kvs))) (lockAt st n l od kvs) := rm.put ra ⟨upd_same, k2, k3⟩
          refine ⟨m.put a (.frz od (.dK kvs)), sg, lockAt st n l od kvs, rfl, r1, rs.mono e1, ?_⟩
          rw [w]
          have ln : (lockAt st n l od kvs)[n]? = some (.lock l od kvs) := by unfold lockAt; simp [hn]
          have back : (lockAt st n l od kvs).set n (.dict l) = st := by
            unfold lockAt
            rw [List.set_set]
            have := (List.getElem?_eq_some_iff.mp hl).2
            rw [← this, List.set_getElem_self]
          generalize Classical.choose hx = c at hp
          cases c with
          | ok d s2 =>
            intro m2 v e2 r2 q2
            have ra2 : m2.r[n]? = some a := e2.at_ (e1.at_ ra)
            obtain ⟨j1, j2, j3⟩ := r2.obj n a _ ra2 ln
            have e3 : Ext m2 (m2.put a (.dK kvs)) := Ext.put (List.mem_of_getElem? ra2)
            have r3 := r2.put (so := .dict l) ra2 ⟨kvs, upd_same, j2, j3⟩
            rw [back] at r3
            exact ⟨j1, hp _ v ((e1.trans e2).trans e3) r3 (q2.mono e3)⟩
          | exc _ _ _ => exact False.elim hp
          | bad => exact False.elim hp
        · exact False.elim hp
      · exact False.elim hp
    · exact False.elim hp
end Sh
/-! Part ZD: built-in calls with keywords; min(xs, default=d). -/
namespace Sh
open PySem L2 He
def intsOfD : List D → Option (List Int)
  | [] => some []
  | .int i :: l => (intsOfD l).map (i :: ·)
  | _ => none
@[simp] theorem intsOfD_map : ∀ l : List Int, intsOfD (l.map D.int) = some l
  | [] => rfl
  | i :: l => by simp [intsOfD, intsOfD_map l]
section
variable {X : Cx} {W : We} {e : Expr} {es : List Expr} {kws : List Keyword} {g gk : AF} {x : Str} {id : String} {ks : List Str} {p pos : Pos} {r : List V → List V → Hp → VK → Prop} {sem : List D → List D → Sto → Res D}
theorem ints_rep {m : Hw} : ∀ {l : List D} {vs : List V} {ns : List Int}, Reps X.K X.mg m.r m.g l vs → intsOfD l = some ns → vs = ns.map V.int
  | [], _, ns, h, e => by cases h; cases e; rfl
  | d :: l, _, ns, h, e => by
    cases d with
    | int i =>
      cases h with
      | cons h1 h2 =>
        cases h1
        unfold intsOfD at e
        obtain ⟨ns', e1, rfl⟩ := Option.map_eq_some_iff.mp e
        rw [ints_rep h2 e1]
        rfl
    | _ => simp [intsOfD] at e
def FitsK (X : Cx) (W : We) (r : List V → List V → Hp → VK → Prop) (sem : List D → List D → Sto → Res D) : Prop :=
  ∀ (m : Hw) (st : Sto) (σ : St) (l z : List D) (vs zs : List V) (Q : VK), Rel X.K X.mg m st → Reps X.K X.mg m.r m.g l vs → Reps X.K X.mg m.r m.g z zs → Post X.K X.mg W.w m σ (RD X.K X.mg) Q (sem l z st) → r vs zs m.h Q
theorem se_callBK (hc : CallRK X (.builtin id) ks r) (hf : FitsK X W r sem) (hg : Gl X x) (hm : X.mg x = none) (hv : bootBuiltins x = some (.builtin id)) (ha : SA X W (e :: es) g) (hk : SK X W kws gk) (hn : x ≠ "__name__" := by decide) (hdb : (x == ("__debug__" : Str)) = false := by decide)
    (he : backTo pos (starEach (e :: es) X.env) = (false, eval e X.env) :: backTo pos (starEach es X.env) := by rfl) (hpl : (backTo pos (starEach (e :: es) X.env)).any (·.1) = false := by rfl)
    (hall : (backToKw pos (keywordEach kws X.env)).all (·.1.isSome) = true := by rfl) (hnone : (backToKw pos (keywordEach kws X.env)).any (·.1.isNone) = false := by rfl) (hks : (backToKw pos (keywordEach kws X.env)).filterMap (·.1) = ks := by rfl) :
    SE X W (.Call (.Name x p) (e :: es) kws pos) (fCallK sem g gk) :=
  pe_weak (pe_callBK hc hg hm hv ha hk hn hdb he hpl hall hnone hks) fun σ H Q ⟨m, sg, st, em, rm, rs, hp⟩ => ⟨m, sg, st, em, rm, rs, hp.bindc fun m1 l vs st1 e1 r1 q1 hp1 => ⟨m1, sg, st1, rfl, r1, rs.mono e1, Post.bindc (x := gk sg st1) hp1 fun m2 z zs st2 e2 r2 q2 hp2 => hf m2 st2 σ l z vs zs Q r2 (q1.mono e2) q2 hp2⟩⟩
def bMinD (l z : List D) (st : Sto) : Res D := match l, z with
  | [x], [d] => match (lstOf x st).bind intsOfD with
    | some [] => .ok d st
    | some (y :: ys) => .ok (.int (PySem.W.minOf y ys)) st
    | none => .bad
  | _, _ => .bad
abbrev rMinDef (K : PySem.W.Frag) : List V → List V → Hp → VK → Prop := fun vs zs H Q => ∃ a ns d, vs = [V.ref a] ∧ zs = [d] ∧ SqL K H a (ns.map V.int) ∧ (ns = [] → Q d H) ∧ ∀ (y : Int) (ys : List Int), ns = y :: ys → Q (.int (PySem.W.minOf y ys)) H
theorem cr_minDef (hc : X.calm = true) (hu : X.A.units + 1 < cLine) : CallRK X (.builtin "min") ["default"] (rMinDef X.K) := by
  intro pins s σ H vs zs us ws Q I r rz h
  obtain ⟨a, ns, d, rfl, rfl, hs, q0, q1⟩ := h
  obtain ⟨its, rv, hl, _⟩ := I.list hs
  rw [Vals.ref1 r]
  cases rz with
  | cons rd rn =>
    cases rn
    refine PySem.W.min_list_datum_default (α := Int) (xs := ns) (I.ok.hd hc) hl.isList (PySem.W.HoldAll.of_ints (by simpa using rv.ints)) hu (fun e h' tk hk => ⟨d, H, I.kept hk, rd, q0 e⟩) fun y ys i v h' tk e hv hh hk => ?_
    obtain ⟨t, rfl⟩ := PySem.W.int_of_holds hh
    exact ⟨.int _, H, I.kept hk, ⟨t, rfl⟩, q1 y ys e⟩
theorem fits_minD : FitsK X W (rMinDef X.K) bMinD := by
  intro m st σ l z vs zs Q rm ql qz hp
  unfold bMinD at hp
  split at hp
  · rename_i x d
    obtain ⟨v, rfl, hv⟩ := reps1 ql
    obtain ⟨w, rfl, hw⟩ := reps1 qz
    split at hp
    · rename_i h
      obtain ⟨l, h1, h2⟩ := Option.bind_eq_some_iff.mp h
      obtain ⟨a, ws, rfl, k1, k2⟩ := lst_of rm hv h1
      rw [ints_rep k2 h2] at k1
      exact ⟨a, [], w, rfl, rfl, k1, fun _ => hp.okc rm hw, fun y ys e => by cases e⟩
    · rename_i y ys h
      obtain ⟨l, h1, h2⟩ := Option.bind_eq_some_iff.mp h
      obtain ⟨a, ws, rfl, k1, k2⟩ := lst_of rm hv h1
      rw [ints_rep k2 h2] at k1
      refine ⟨a, y :: ys, w, rfl, rfl, k1, ?_, ?_⟩
      · intro e
        cases e
      · intro y' ys' e
        cases e
        exact hp.okc rm (.int _)
    · exact False.elim hp
  · exact False.elim hp
end
end Sh
/-! Part ZE: a comprehension over a dict that is locked behind its making, and unlocked at the end (ghost steps). -/
namespace Sh
open PySem L2 He
section
variable {X : Cx} {e : Expr} {t : TE}
def lkTE (X : Cx) (t : TE) : TE := fun σ H Q => t σ H fun x H1 => ∃ d u, x = .ref d ∧ H1 d = some u ∧ Mut (some u) ∧ ∀ od, (∀ o' u', X.H_0 d ≠ some (.frz o' u')) → Q x (upd H1 d (.frz od u))
/-- behind e: its dict is locked -/
theorem pe_lockAt (h : PE X e t) : PE X e (lkTE X t) := by
  refine ⟨fun pins s σ H Q I hw => thn (h.run pins s σ H _ I hw) fun v s1 ⟨x, H1, I1, r, d, u, ex, hd, mu, q⟩ => ?_⟩
  obtain ⟨od, I2⟩ := I1.lock hd mu
  exact ⟨x, _, I2, r, q od (I1.nofrz hd mu)⟩
def ulTE (X : Cx) (t : TE) : TE := fun σ H Q => t σ H fun x H1 => ∃ d od u, H1 d = some (.frz od u) ∧ (∀ o' u', X.H_0 d ≠ some (.frz o' u')) ∧ Q x (upd H1 d u)
/-- at the end of e: it is unlocked -/
theorem pe_unlockAt (h : PE X e t) : PE X e (ulTE X t) := by
  refine ⟨fun pins s σ H Q I hw => thn (h.run pins s σ H _ I hw) fun v s1 ⟨x, H1, I1, r, d, od, u, hd, hn, q⟩ => ?_⟩
  exact ⟨x, _, I1.unlock hd hn, r, q⟩
end
theorem items_it {K : PySem.W.Frag} {mg : Str → Option Value} {m1 : Hw} {n : Nat} {a : Addr} {l : List (Key × D)} {o : Obj} {kvs : List (Key × V)} (hr : m1.r[n]? = some a) : ItOk K mg m1 (Iti a o kvs) (l.map fun kv => .tup [kyD kv.1, kv.2]) (fun st => st[n]? = some (.lock l o kvs)) := fun m2 st2 e2 r2 c2 i => by
  obtain ⟨j1, j2, j3⟩ := r2.obj _ _ _ (e2.at_ hr) c2
  have hlen : kvs.length = l.length := by have := congrArg List.length j2; simpa using this
  refine ⟨fun hi => ⟨j1, by rw [hlen]; simpa using hi⟩, fun d hd => ?_⟩
  rw [List.getElem?_map] at hd
  obtain ⟨⟨k, dd⟩, hkd, rfl⟩ := Option.map_eq_some_iff.mp hd
  obtain ⟨v, a1, a2⟩ := kv_at j2 j3 hkd
  refine ⟨⟨j1, (List.getElem?_eq_some_iff.mp a1).1⟩, fun y H' ⟨T, k', v', b1, b2, b3, b4⟩ => ?_⟩
  rw [a1] at b1
  cases b1
  subst b2
  rw [b4]
  exact pair_ok r2 b3 (kyD_rep k) a2
theorem vals_it {K : PySem.W.Frag} {mg : Str → Option Value} {m1 : Hw} {n : Nat} {a : Addr} {l : List (Key × D)} {o : Obj} {kvs : List (Key × V)} (hr : m1.r[n]? = some a) : ItOk K mg m1 (Itd a o kvs) (l.map (·.2)) (fun st => st[n]? = some (.lock l o kvs)) := fun m2 st2 e2 r2 c2 i => by
  obtain ⟨j1, j2, j3⟩ := r2.obj _ _ _ (e2.at_ hr) c2
  have hlen : kvs.length = l.length := by have := congrArg List.length j2; simpa using this
  refine ⟨fun hi => ⟨j1, by rw [hlen]; simpa using hi⟩, fun d hd => ?_⟩
  rw [List.getElem?_map] at hd
  obtain ⟨⟨k, dd⟩, hkd, rfl⟩ := Option.map_eq_some_iff.mp hd
  obtain ⟨v, a1, a2⟩ := kv_at j2 j3 hkd
  refine ⟨⟨j1, (List.getElem?_eq_some_iff.mp a1).1⟩, fun y H' ⟨b1, k', b2⟩ => ?_⟩
  rw [a1] at b2
  cases b2
  exact ⟨m2, b1.symm, Ext.refl _, r2, a2⟩
theorem keys_it {K : PySem.W.Frag} {mg : Str → Option Value} {m1 : Hw} {n : Nat} {a : Addr} {l : List (Key × D)} {o : Obj} {kvs : List (Key × V)} (hr : m1.r[n]? = some a) : ItOk K mg m1 (Itk a o kvs) (l.map fun kv => kyD kv.1) (fun st => st[n]? = some (.lock l o kvs)) := fun m2 st2 e2 r2 c2 i => by
  obtain ⟨j1, j2, j3⟩ := r2.obj _ _ _ (e2.at_ hr) c2
  have hlen : kvs.length = l.length := by have := congrArg List.length j2; simpa using this
  refine ⟨fun hi => ⟨j1, by rw [hlen]; simpa using hi⟩, fun d hd => ?_⟩
  rw [List.getElem?_map] at hd
  obtain ⟨⟨k, dd⟩, hkd, rfl⟩ := Option.map_eq_some_iff.mp hd
  obtain ⟨v, a1, a2⟩ := kv_at j2 j3 hkd
  refine ⟨⟨j1, (List.getElem?_eq_some_iff.mp a1).1⟩, fun y H' ⟨b1, k', v', b2, b3⟩ => ?_⟩
  rw [a1] at b2
  cases b2
  rw [b3]
  exact ⟨m2, b1.symm, Ext.refl _, r2, kyD_rep k⟩
/-- what a walk of a dict yields -/
inductive Wy where
  | items | vals | keys
def Wy.sel : Wy → List (Key × D) → List D
  | .items, l => l.map fun kv => .tup [kyD kv.1, kv.2]
  | .vals, l => l.map (·.2)
  | .keys, l => l.map fun kv => kyD kv.1
@[simp] theorem sel_items (l : List (Key × D)) : Wy.items.sel l = l.map fun kv => .tup [kyD kv.1, kv.2] := rfl
@[simp] theorem sel_vals (l : List (Key × D)) : Wy.vals.sel l = l.map (·.2) := rfl
@[simp] theorem sel_keys (l : List (Key × D)) : Wy.keys.sel l = l.map fun kv => kyD kv.1 := rfl
def lkck (n : Nat) (l : List (Key × D)) (o : Obj) (kvs : List (Key × V)) : Sto → Prop := fun st => st[n]? = some (.lock l o kvs)
open Classical in
noncomputable def lcLk (ws : List Nat) (fo : EF) (y : Wy) (t : Tg) (c : TF) (f : EF) : Sg → Sto → Res (List D) := fun sg st => (fo sg st).bind fun x st1 => match x with
  | .loc n => match st1[n]? with
    | some (.dict l) => if h : (y.sel l).length ≤ 16777216 ∧ ∃ ys, ∀ o kvs, lcF (lkck n l o kvs) t c f (wipeD sg ws) (y.sel l) (lockAt st1 n l o kvs) = .ok ys (lockAt st1 n l o kvs) then .ok (Classical.choose h.2) st1 else .bad
    | _ => .bad
  | _ => .bad
@[simp] noncomputable def fLcK (ws : List Nat) (fo : EF) (y : Wy) (t : Tg) (c : TF) (f : EF) : EF := fun sg st => (lcLk ws fo y t c f sg st).bind fun l st1 => .ok (.lst l) st1
@[simp] noncomputable def fLcKN (ws : List Nat) (fo : EF) (y : Wy) (t : Tg) (c : TF) (f : EF) : EF := fun sg st => (lcLk ws fo y t c f sg st).bind fun l st1 => .ok (.loc st1.length) (st1 ++ [.lst l])
theorem lcLk_eq {ws : List Nat} {fo : EF} {y : Wy} {t : Tg} {c : TF} {f : EF} {sg : Sg} {st st1 : Sto} {n : Nat} {l : List (Key × D)} {ys : List D} (e : fo sg st = .ok (.loc n) st1) (hn : st1[n]? = some (.dict l)) (hl : (y.sel l).length ≤ 16777216)
    (h : ∀ o kvs, lcF (lkck n l o kvs) t c f (wipeD sg ws) (y.sel l) (lockAt st1 n l o kvs) = .ok ys (lockAt st1 n l o kvs)) : lcLk ws fo y t c f sg st = .ok ys st1 := by
  unfold lcLk
  rw [e]
  dsimp only [Res.bind]
  rw [hn]
  dsimp only
  have hx : (y.sel l).length ≤ 16777216 ∧ ∃ ys, ∀ o kvs, lcF (lkck n l o kvs) t c f (wipeD sg ws) (y.sel l) (lockAt st1 n l o kvs) = .ok ys (lockAt st1 n l o kvs) := ⟨hl, ys, h⟩
  rw [dif_pos hx]
  let o : Obj := { cls := .type "dict", dict := none, data := .dict #[] 0, slots := #[] }
  have a := Classical.choose_spec hx.2 o []
  rw [h o []] at a
  cases a
  congr 1
section
variable {X : Cx} {W : We} {t : Tg} {ct : TF} {fe f : EF} {ifs : List Expr} {scope : Scope} {own : List (Str × Nat)} {elt tg iter e : Expr} {pos apos cpos : Pos}
def Wy.ti (y : Wy) (t : TE) : TI := match y with
  | .items => iItems t
  | .vals => iVals t
  | .keys => iKeys t
def Wy.it (y : Wy) (a : Addr) (o : Obj) (kvs : List (Key × V)) : It := match y with
  | .items => Iti a o kvs
  | .vals => Itd a o kvs
  | .keys => Itk a o kvs
theorem Wy.ok {K : PySem.W.Frag} {mg : Str → Option Value} {m1 : Hw} {n : Nat} {a : Addr} {l : List (Key × D)} {o : Obj} {kvs : List (Key × V)} (y : Wy) (hr : m1.r[n]? = some a) : ItOk K mg m1 (y.it a o kvs) (y.sel l) (lkck n l o kvs) := by
  cases y with
  | items => exact items_it hr
  | vals => exact vals_it hr
  | keys => exact keys_it hr
theorem Wy.ti_of (y : Wy) {t : TE} {σ : St} {H : Hp} {R : It → Hp → Prop} (h : t σ H fun x H1 => ∃ d o kvs, x = .ref d ∧ H1 d = some (.frz o (.dK kvs)) ∧ R (y.it d o kvs) H1) (mono : ∀ σ H (Q Q' : VK), (∀ x H, Q x H → Q' x H) → t σ H Q → t σ H Q') : y.ti t σ H R := by
  cases y with
  | items => exact h
  | vals => exact h
  | keys => exact mono _ _ _ _ (fun x H ⟨d, o, kvs, a, b, c⟩ => ⟨d, o, a, .inl ⟨kvs, b, c⟩⟩) h
theorem Post.monoQ {α β : Type} {K : PySem.W.Frag} {mg : Str → Option Value} {w : WX} {m : Hw} {σ : St} {R : Hw → α → β → Prop} {Q Q' : β → Hp → Prop} {r : Res α} (h : Post K mg w m σ R Q r) (i : ∀ x H, Q x H → Q' x H) : Post K mg w m σ R Q' r := by
  cases r with
  | ok a st => exact fun m1 v e r q => i _ _ (h m1 v e r q)
  | exc c o st => exact h
  | bad => exact h
theorem tof_mono {K : PySem.W.Frag} {mg : Str → Option Value} {W : We} {f : EF} {σ : St} {H : Hp} {Q Q' : VK} (i : ∀ x H, Q x H → Q' x H) (h : TOf K mg W (RD K mg) f σ H Q) : TOf K mg W (RD K mg) f σ H Q' := by
  obtain ⟨m, sg, st, e, rm, rs, hp⟩ := h
  exact ⟨m, sg, st, e, rm, rs, hp.monoQ i⟩
theorem lk_mono {f : EF} : ∀ σ H (Q Q' : VK), (∀ x H, Q x H → Q' x H) → lkTE X (TOf X.K X.mg W (RD X.K X.mg) f) σ H Q → lkTE X (TOf X.K X.mg W (RD X.K X.mg) f) σ H Q' := fun σ H Q Q' i h => tof_mono (fun x H ⟨d, u, a, b, c, k⟩ => ⟨d, u, a, b, c, fun od z => i _ _ (k od z)⟩) h
theorem tLcK_of {σ : St} {Q : VK} {m : Hw} {sg : Sg} {st : Sto} {ws : List Nat} {y : Wy} {k : List D → Sto → Res D} (hw : ∀ i ∈ tgSl t, i ∈ ws) (hne : ∀ z, W.e = some z → z.i ∉ ws) (rm : Rel X.K X.mg m st) (rs : SgRep X.K X.mg W.e m sg σ) (hp : Post X.K X.mg W.w m σ (RD X.K X.mg) Q ((lcLk ws f y t ct fe sg st).bind k))
    (fin : ∀ m1 l st1 Dl m2 vs, Ext m m1 → m1.h Dl = none → Ext m1 m2 → m2.h Dl = some (.lst vs) → Dl ∉ m2.r → m2.g Dl = none → Rel X.K X.mg m2 st1 → Reps X.K X.mg m2.r m2.g l vs → Post X.K X.mg W.w m1 σ (RD X.K X.mg) Q (k l st1) → Q (.ref Dl) m2.h) :
    ulTE X (tLc (y.ti (lkTE X (TOf X.K X.mg W (RD X.K X.mg) f))) (gTg X.K t) (TOf X.K X.mg (WF W) RB ct) (TOf X.K X.mg (WF W) (RD X.K X.mg) fe) ws) σ m.h Q := by
  unfold lcLk at hp
  rw [bind_assoc'] at hp
  refine y.ti_of ?_ lk_mono
  refine ⟨m, sg, st, rfl, rm, rs, hp.bindc fun m1 x v st1 e1 r1 q1 hp1 => ?_⟩
  split at hp1
  · rename_i n
    split at hp1
    · rename_i l hl
      split at hp1
      · rename_i hx
        cases q1 with
        | loc ra =>
          rename_i a
          obtain ⟨kvs, k1, k2, k3⟩ := r1.obj _ _ _ ra hl
          refine ⟨a, .dK kvs, rfl, k1, trivial, fun od hnf => ⟨a, od, kvs, rfl, upd_same, fun Dl hD => ?_⟩⟩
          have hn : n < st1.length := (List.getElem?_eq_some_iff.mp hl).1
          have am : a ∈ m1.r := List.mem_of_getElem? ra
          have e2 : Ext m1 (m1.put a (.frz od (.dK kvs))) := Ext.put am
          have r2 : Rel X.K X.mg (m1.put a (.frz od (.dK kvs))) (lockAt st1 n l od kvs) := r1.put ra ⟨upd_same, k2, k3⟩
          have ln : (lockAt st1 n l od kvs)[n]? = some (.lock l od kvs) := by unfold lockAt; simp [hn]
          have back : (lockAt st1 n l od kvs).set n (.dict l) = st1 := by
            unfold lockAt
            rw [List.set_set]
            have := (List.getElem?_eq_some_iff.mp hl).2
            rw [← this, List.set_getElem_self]
          have hs := Classical.choose_spec hx.2 od kvs
          generalize Classical.choose hx.2 = ys at hs hp1
          have hda : Dl ≠ a := fun z => by
            subst z
            have : upd m1.h Dl (.frz od (.dK kvs)) Dl = none := hD
            rw [upd_same] at this
            cases this
          have hD1 : m1.h Dl = none := by
            have : upd m1.h a (.frz od (.dK kvs)) Dl = none := hD
            rwa [upd_ne hda] at this
          refine lc_ok (w := ⟨y.sel l, lkck n l od kvs⟩) (Qd := fun x H1 => ∃ d od u, H1 d = some (.frz od u) ∧ (∀ o' u', X.H_0 d ≠ some (.frz o' u')) ∧ Q x (upd H1 d u)) hw hx.1 (y.ok (e2.at_ ra)) r2 (rs.mono (e1.trans e2)) hne (fun l' st' => l' = ys ∧ st' = lockAt st1 n l od kvs) Dl hD ⟨ys, _, hs, rfl, rfl⟩ fun m3 l' vs st' e3 h1 h2 h3 r3 q3 hR => ?_
          obtain ⟨rfl, rfl⟩ := hR
          have ra3 : m3.r[n]? = some a := e3.at_ (e2.at_ ra)
          obtain ⟨j1, j2, j3⟩ := r3.obj n a _ ra3 ln
          have e4 : Ext m3 (m3.put a (.dK kvs)) := Ext.put (List.mem_of_getElem? ra3)
          have r4 : Rel X.K X.mg (m3.put a (.dK kvs)) st1 := by
            have := r3.put (so := .dict l) ra3 ⟨kvs, upd_same, j2, j3⟩
            rwa [back] at this
          refine ⟨a, od, .dK kvs, j1, hnf, ?_⟩
          refine fin m1 l' st1 Dl (m3.put a (.dK kvs)) vs e1 hD1 ((e2.trans e3).trans e4) ?_ h2 h3 r4 (q3.mono e4) hp1
          show upd m3.h a (.dK kvs) Dl = _
          rw [upd_ne hda]
          exact h1
      · exact False.elim hp1
    · exact False.elim hp1
  · exact False.elim hp1
section
variable {y : Wy} (hc : X.calm = true) (hN : X.N.Nodup) (hi : PI X tg iter (y.ti (lkTE X (TOf X.K X.mg W (RD X.K X.mg) f)))) (ok : BlkOk X.N X.env.scope scope own) (hw : ∀ i ∈ tgSl t, i ∈ own.map (·.2))
  (hg : ∀ (s : Shared) (H : Hp) (C : Addr) (cl : List (Str × Addr)) (fp : List Addr), PG (X.blk s H scope (compEnvC scope cl C X.env) fp) tg (gTg X.K t)) (ht : ∀ (s : Shared) (H : Hp) (C : Addr) (cl : List (Str × Addr)) (fp : List Addr), STs (X.blk s H scope (compEnvC scope cl C X.env) fp) (WF W) ifs ct)
  (he : ∀ (s : Shared) (H : Hp) (C : Addr) (cl : List (Str × Addr)) (fp : List Addr), SE (X.blk s H scope (compEnvC scope cl C X.env) fp) (WF W) elt fe) (hfs : ∀ x, foldedSetIterable iter X.env x = pure x)
include hc hN hi ok hw hg ht he hfs
theorem se_lcK (hne : ∀ z, W.e = some z → z.i ∉ own.map (·.2) := by first | (intro _ h; cases h; done) | (intro _ h; cases h; decide)) : SE X W (.ListComp elt [⟨tg, iter, ifs, 0⟩] scope pos) (fLcK (own.map (·.2)) f y t ct fe) :=
  pe_weak (pe_unlockAt (pe_lc (tt := TOf X.K X.mg (WF W) RB ct) (te := TOf X.K X.mg (WF W) (RD X.K X.mg) fe) hc hN hi ok hg ht he hfs)) fun σ H Q ⟨m, sg, st, e, rm, rs, hp⟩ => by
    subst e
    exact tLcK_of hw hne rm rs hp fun m1 l st1 Dl m2 vs e1 hD e2 h1 h2 h3 r2 q2 hp1 => lc_val hD e2 h1 h2 r2 q2 hp1
theorem se_lcKN (hne : ∀ z, W.e = some z → z.i ∉ own.map (·.2) := by first | (intro _ h; cases h; done) | (intro _ h; cases h; decide)) : SE X W (.ListComp elt [⟨tg, iter, ifs, 0⟩] scope pos) (fLcKN (own.map (·.2)) f y t ct fe) :=
  pe_weak (pe_unlockAt (pe_lc (tt := TOf X.K X.mg (WF W) RB ct) (te := TOf X.K X.mg (WF W) (RD X.K X.mg) fe) hc hN hi ok hg ht he hfs)) fun σ H Q ⟨m, sg, st, e, rm, rs, hp⟩ => by
    subst e
    exact tLcK_of hw hne rm rs hp fun m1 l st1 Dl m2 vs e1 hD e2 h1 h2 h3 r2 q2 hp1 => lc_new hD e2 h1 h2 h3 r2 q2 hp1
end
theorem ki_items {elts : List Expr} {kk : Nat} {tpos : Pos} (he : SE X W e f) (hb : attributeBase e "items" X.env (eval e X.env) = eval e X.env := by rfl) (hl : (apos.endLine == cpos.line) = true := by rfl) : PI X (.Tuple elts kk tpos) (.Call (.Attribute e "items" apos) [] [] cpos) (Wy.items.ti (lkTE X (TOf X.K X.mg W (RD X.K X.mg) f))) := pi_items (pe_lockAt he) hb hl
theorem ki_vals (he : SE X W e f) (hb : attributeBase e "values" X.env (eval e X.env) = eval e X.env := by rfl) (hl : (apos.endLine == cpos.line) = true := by rfl) : PI X tg (.Call (.Attribute e "values" apos) [] [] cpos) (Wy.vals.ti (lkTE X (TOf X.K X.mg W (RD X.K X.mg) f))) := pi_values (pe_lockAt he) hb hl
theorem ki_keys (he : SE X W e f) : PI X tg e (Wy.keys.ti (lkTE X (TOf X.K X.mg W (RD X.K X.mg) f))) := pi_keys (pe_lockAt he)
end
end Sh
/-! Part ZF: sorted of data (ints, texts, tuples of such): of a list, of a tuple. -/
namespace Sh
open PySem L2 He
section
open PySem.W PySem.Calls PyProof.Rows
variable {prog : Program} {w : World} {A : Around} {E : Value → Shared → Prop} {s : Shared} {β : Type} {enc : β → PyData}
/-- sorted(r): what collect gives of r, sorted in a new list -/
theorem sorted_col {r : Value} {P : List Value → Shared → Prop} {Q : Value → Shared → Prop} (ha1 : argsOk "sorted" ⟨[r], []⟩)
    (hcol : ∀ (E' : Value → Shared → Prop) (Q' : List Value → Shared → Prop), (∀ vs s1, P vs s1 → Q' vs s1) → wpAny (model prog w) A.in1 (collect r) Q' E' s)
    (body : ∀ vs s1, P vs s1 → ∃ (R : Value → β → Prop) (bs : List β), EachIs R vs bs ∧ EachIs (fun v b => ∃ as, Reads s1.heap v (enc b) as) vs bs ∧ AllAlike (bs.map enc) ∧ Sortable (bs.map enc) ∧ bs.length ≤ sizeLine ∧ (∀ b, b ∈ bs → A.units + 2 + (enc b).depth < cLine) ∧
      ∀ h' out ep, (∀ b o, s1.heap.get? b = some o → h'.get? b = some o) → h'.get? s1.heap.objs.size = some (seqObj "list" (List.toArray out) ep) → EachIs R out (bs.mergeSort (dataLe false enc)) → Q (.ref s1.heap.objs.size) { s1 with heap := h' }) :
    wpAny (model prog w) A (call (.builtin "sorted") [r] []) Q E s := by
  refine call_function_entry_kw kind_sorted plain_sorted entry_sorted ha1 ?_
  unfold Builtin.«sorted»
  refine wpAny_bind (m := checkCount "sorted" 1 1 _) (wpAny_pure ?_)
  refine wpAny_bind (hcol _ _ fun vs s1 hP => ?_)
  obtain ⟨R, bs, e, er, hal, hk, hL, hu, fin⟩ := body vs s1 hP
  have hlv : vs.length ≤ sizeLine := by rw [e.length]; exact hL
  refine wpAny_bind (wpAny_newList ?_ hlv)
  show wpAny _ _ _ _ _ { s1 with heap := s1.heap.push (seqObj "list" vs.toArray 0) }
  have ho : (s1.heap.push (seqObj "list" vs.toArray 0)).get? s1.heap.objs.size = some (seqObj "list" vs.toArray 0) := Heap.get?_push_size _ rfl
  have old : ∀ b o, s1.heap.get? b = some o → (sortingHeap (s1.heap.push (seqObj "list" vs.toArray 0)) s1.heap.objs.size vs).get? b = some o := fun b o q => sortingHeap_old (Nat.ne_of_lt (Heap.lt_size q)) (Heap.get?_push_of_some _ q)
  have er' : EachIs (fun v b => ∃ as, Reads (sortingHeap (s1.heap.push (seqObj "list" vs.toArray 0)) s1.heap.objs.size vs) v (enc b) as) vs bs := er.mono fun _ _ ⟨as, q⟩ => ⟨as, PyProof.Rows.Reads.keeps (fun _ _ => old _ _) q⟩
  refine wpAny_bind (wpAny_holding (wpAny_call_entry_kw slot_list_sort ⟨_, ho, rfl⟩ entry_list_sort ?body (args_list_sort _)))
  case body =>
    show wpAny (model prog w) A.in1.in1 (Builtin.«list.sort» ⟨[.ref s1.heap.objs.size], []⟩) _ _ _
    refine list_sort_vals (s := { s1 with heap := s1.heap.push (seqObj "list" vs.toArray 0) }) ho (SortsAt.data (A := A.in1.in1) (s := { s1 with heap := sortingHeap (s1.heap.push (seqObj "list" vs.toArray 0)) s1.heap.objs.size vs }) (each_map (R := fun v d => ∃ as, Reads (sortingHeap (s1.heap.push (seqObj "list" vs.toArray 0)) s1.heap.objs.size vs) v d as) enc er') hal hk (bound_map (A := A.in1.in1) hu)) hlv ?_
    have hat := fun out => sortedHeap_at (out := out) ho
    refine ⟨_, rfl, wpAny_pure ⟨_, rfl, fin _ _ _ (fun b o q => ?_) (Classical.choose_spec (hat _)) (sortVals_data false e er' hal)⟩⟩
    rw [sortedHeap_old (Nat.ne_of_lt (Heap.lt_size q)) (by rw [Heap.size_push]; exact Nat.lt_succ_of_lt (Heap.lt_size q))]
    exact Heap.get?_push_of_some _ q
end
/-! at the level of D -/
def pyD (x : D) : PyData := (toPy x).getD .none
def pysD : List D → Option (List PyData) := toPys
def srtOk (l : List D) : Prop := (∃ ds, toPys l = some ds) ∧ PySem.W.AllAlike (l.map pyD) ∧ PySem.W.Sortable (l.map pyD) ∧ (∀ x ∈ l, (pyD x).depth ≤ 8) ∧ l.length ≤ 16777216
noncomputable def srtD (l : List D) : List D := l.mergeSort (PySem.W.dataLe false pyD)
open Classical in
noncomputable def bSorted : List D → Sto → Res D := fun l st => match l with
  | [x] => match itemsOf x st with
    | some l => if srtOk l then .ok (.lst (srtD l)) st else .bad
    | none => .bad
  | _ => .bad
open Classical in
noncomputable def bSortedN : List D → Sto → Res D := fun l st => match l with
  | [x] => match itemsOf x st with
    | some l => if srtOk l then .ok (.loc st.length) (st ++ [.lst (srtD l)]) else .bad
    | none => .bad
  | _ => .bad
theorem toPys_map : ∀ {l : List D} {ds : List PyData}, toPys l = some ds → l.map pyD = ds ∧ ∀ x ∈ l, toPy x = some (pyD x)
  | [], ds, e => by cases (Option.some.inj (by simpa [toPys] using e) : [] = ds); exact ⟨rfl, fun _ h => absurd h (by simp)⟩
  | x :: l, ds, e => by
    obtain ⟨d, r, rfl, h1, h2⟩ := toPys_cons e
    obtain ⟨a, b⟩ := toPys_map h2
    have hx : pyD x = d := by unfold pyD; rw [h1]; rfl
    refine ⟨by rw [List.map_cons, a, hx], fun y hy => ?_⟩
    rcases List.mem_cons.mp hy with rfl | hy
    · rw [hx]; exact h1
    · exact b y hy
section
variable {X : Cx} {W : We}
/-- the items of a sequence, as they stand for D -/
theorem each_of {K : PySem.W.Frag} {mg : Str → Option Value} {r : List Addr} {G : Hp} : ∀ {l : List D} {vs : List V} {us : List Value}, Reps K mg r G l vs → Vals vs us → PySem.W.EachIs (fun (u : Value) (d : D) => ∃ v, RelV v u ∧ Rep K mg r G d v) us l
  | [], _, _, .nil, .nil => .nil
  | _ :: _, _, _, .cons h t, .cons rv rt => .cons ⟨_, rv, h⟩ (each_of t rt)
theorem each_back {K : PySem.W.Frag} {mg : Str → Option Value} {r : List Addr} {G : Hp} : ∀ {l : List D} {us : List Value}, PySem.W.EachIs (fun (u : Value) (d : D) => ∃ v, RelV v u ∧ Rep K mg r G d v) us l → ∃ vs, Reps K mg r G l vs ∧ Vals vs us
  | [], _, .nil => ⟨[], .nil, .nil⟩
  | _ :: _, _, .cons ⟨v, h1, h2⟩ t => let ⟨vs, a, b⟩ := each_back t; ⟨v :: vs, .cons h2 a, .cons h1 b⟩
theorem each_reads {pins : List (Addr × Obj)} {s : Shared} {σ : St} {m : Hw} {st : Sto} (I : Inv X pins σ m.h s) (rm : Rel X.K X.mg m st) : ∀ {l : List D} {vs : List V} {us : List Value}, Reps X.K X.mg m.r m.g l vs → Vals vs us → (∀ x ∈ l, toPy x = some (pyD x)) → PySem.W.EachIs (fun (u : Value) (d : D) => ∃ as, PySem.Reads s.heap u (pyD d) as) us l
  | [], _, _, .nil, .nil, _ => .nil
  | x :: l, _, _, .cons h t, .cons rv rt, hx => .cons (Dp.reads I _ _ _ (dp_of rm.sub x _ _ h (hx x List.mem_cons_self)) rv) (each_reads I rm t rt fun y hy => hx y (List.mem_cons_of_mem _ hy))
theorem srt_length (l : List D) : (srtD l).length = l.length := by unfold srtD; simp
/-- the sorted list is laid -/
theorem sorted_run {pins : List (Addr × Obj)} {s : Shared} {σ : St} {m : Hw} {st : Sto} {l : List D} {vs : List V} {a : Addr} {Q : VK} (hu : X.A.units + 64 < cLine) (I : Inv X pins σ m.h s) (rm : Rel X.K X.mg m st) (hl : SqL X.K m.h a vs ∨ SqT X.K m.h a vs) (q : Reps X.K X.mg m.r m.g l vs) (ho : srtOk l)
    (fin : ∀ p vs', m.h p = none → Reps X.K X.mg m.r m.g (srtD l) vs' → Q (.ref p) (upd m.h p (.lst vs'))) : wpAny (model X.prog X.w) X.A (call (.builtin "sorted") [.ref a]) (EP X pins σ Q) X.xe s := by
  obtain ⟨⟨ds, h1⟩, h2, h3, h4, h5⟩ := ho
  obtain ⟨_, hpy⟩ := toPys_map h1
  have col : ∃ its : List Value, Vals vs its ∧ vs.length ≤ sizeLine ∧ ∃ o T n, (T = "list" ∨ T = "tuple") ∧ s.heap.get? a = some o ∧ o.cls = .type T ∧ o.data = .seq its.toArray n := by
    rcases hl with hl | hl
    · obtain ⟨its, rv, ⟨o, n, e1, e2, _, e3⟩, hz⟩ := I.list hl
      exact ⟨its, rv, hz, o, "list", n, .inl rfl, e1, e2, e3⟩
    · obtain ⟨its, rv, ⟨o, e1, e2, n, e3⟩, hz⟩ := I.tuple hl
      exact ⟨its, rv, hz, o, "tuple", n, .inr rfl, e1, e2, e3⟩
  obtain ⟨its, rv, hz, o, T, n, hT, e1, e2, e3⟩ := col
  have hzi : its.length ≤ sizeLine := by rw [← rv.length]; exact hz
  refine sorted_col (β := D) (enc := pyD) (P := fun us s1 => us = its ∧ ∃ h', s1 = { s with heap := h' } ∧ ∀ b o, s.heap.get? b = some o → h'.get? b = some o) (PyProof.Rows.args_sorted1 _) (fun E' Q' hq => ?_) fun us s1 hP => ?_
  · exact wpAny_collect_seq (hsz := by simpa using hzi) a hT e1 e2 e3 fun h' hk => hq _ _ ⟨by simp, h', rfl, hk⟩
  · obtain ⟨rfl, h', rfl, hk⟩ := hP
    have I1 : Inv X pins σ m.h { s with heap := h' } := I.kept (t' := s.toks) hk
    refine ⟨fun (u : Value) (d : D) => ∃ v, RelV v u ∧ Rep X.K X.mg m.r m.g d v, l, each_of q rv, each_reads I1 rm q rv hpy, h2, h3, by rw [sizeLine_eq]; omega, fun x hx => by have := h4 x hx; omega, fun h2 out ep k2 hat hE => ?_⟩
    obtain ⟨vs', q', rv'⟩ := each_back hE
    have hlen : vs'.length ≤ sizeLine := by
      rw [← q'.length]
      show (srtD l).length ≤ _
      rw [srt_length, sizeLine_eq]; omega
    exact ⟨.ref h'.objs.size, upd m.h h'.objs.size (.lst vs'), I1.laid (t' := s.toks) k2 (Nat.le_refl _) ⟨hlen, out, ep, rv', hat⟩, rfl, fin _ vs' (I1.hok.fresh (Nat.le_refl _)) q'⟩
theorem cal_sorted (hu : X.A.units + 64 < cLine) : CalS X W (.builtin "sorted") bSorted := by
  intro pins s σ m st l vs us Q I rv rm ra hp
  unfold bSorted at hp
  split at hp
  · obtain ⟨v, rfl, hv⟩ := reps1 ra
    split at hp
    · rename_i l h
      split at hp
      · rename_i ho
        obtain ⟨q, ws, rfl, k1, k2⟩ := items_of rm hv h
        rw [Vals.ref1 rv]
        exact sorted_run hu I rm k1 k2 ho fun p vs' hn q' => hp.lay (α := D) rm (fun p hn => .lst upd_same (q'.mono (Ext.lay rm hn))) p hn
      · exact False.elim hp
    · exact False.elim hp
  · exact False.elim hp
theorem cal_sortedN (hu : X.A.units + 64 < cLine) : CalS X W (.builtin "sorted") bSortedN := by
  intro pins s σ m st l vs us Q I rv rm ra hp
  unfold bSortedN at hp
  split at hp
  · obtain ⟨v, rfl, hv⟩ := reps1 ra
    split at hp
    · rename_i l h
      split at hp
      · rename_i ho
        obtain ⟨q, ws, rfl, k1, k2⟩ := items_of rm hv h
        rw [Vals.ref1 rv]
        exact sorted_run hu I rm k1 k2 ho fun p vs' hn q' => post_new hp rm q' p hn
      · exact False.elim hp
    · exact False.elim hp
  · exact False.elim hp
end
end Sh
/-! Part ZG: a walk of a locked dict's keys. -/
namespace Sh
open PySem L2 He
@[simp] def iKeysD (f : EF) : IF := fun sg st => (f sg st).bind fun x st1 => match x with
  | .loc n => match st1[n]? with
    | some (.lock l o kvs) => .ok ⟨l.map fun kv => kyD kv.1, fun st => st[n]? = some (.lock l o kvs)⟩ st1
    | _ => .bad
  | _ => .bad
section
variable {X : Cx} {W : We} {tg e : Expr} {f : EF}
theorem si_keys (he : SE X W e f) : SI X W tg e (iKeysD f) :=
  pi_weak (pi_keys he) fun σ H R ⟨m, sg, st, e, rm, rs, hp⟩ => ⟨m, sg, st, e, rm, rs, hp.bindc fun m1 x v st1 e1 r1 q1 hp1 => by
    split at hp1
    · rename_i n
      split at hp1
      · rename_i l o kvs hn
        cases q1 with
        | loc hr =>
          obtain ⟨k1, k2, k3⟩ := r1.obj _ _ _ hr hn
          exact ⟨_, o, rfl, .inl ⟨kvs, k1, hp1.okc r1 (keys_it hr)⟩⟩
      · exact False.elim hp1
    · exact False.elim hp1⟩
end
/-! + of lists, one of which stands in the store; a sum that is changed later -/
def lstH : D → Sto → Option (List D)
  | .lst l, _ => some l
  | .loc n, st => match st[n]? with
    | some (.lst l) => some l
    | _ => none
  | _, _ => none
@[simp] theorem lstH_lst (l : List D) (st : Sto) : lstH (.lst l) st = some l := rfl
def dAddL : D → D → Sto → Res D := fun x y st => match lstH x st, lstH y st with
  | some l, some l' => if l.length + l'.length ≤ 16777216 then .ok (.lst (l ++ l')) st else .bad
  | _, _ => .bad
def dAddN : D → D → Sto → Res D := fun x y st => match lstH x st, lstH y st with
  | some l, some l' => if l.length + l'.length ≤ 16777216 then .ok (.loc st.length) (st ++ [.lst (l ++ l')]) else .bad
  | _, _ => .bad
section
variable {X : Cx} {W : We}
theorem lst_h {m : Hw} {st : Sto} {x : D} {v : V} {l : List D} (rm : Rel X.K X.mg m st) (h : Rep X.K X.mg m.r m.g x v) (e : lstH x st = some l) : ∃ p vs, v = .ref p ∧ m.h p = some (.lst vs) ∧ Reps X.K X.mg m.r m.g l vs := by
  unfold lstH at e
  split at e
  · cases e
    cases h with
    | lst h1 h2 => exact ⟨_, _, rfl, rm.sub _ _ h1, h2⟩
  · cases h with
    | loc h1 =>
      split at e
      · rename_i l' hl
        cases e
        obtain ⟨vs, k1, k2⟩ := rm.obj _ _ _ h1 hl
        exact ⟨_, vs, rfl, k1, k2⟩
      · cases e
  · cases e
theorem fits_addL : Fits2 X W (fun x y H Q => rAddA x y H Q ∨ rCatA X.K x y H Q) dAddL := by
  intro m st σ x y v w Q rm ra rb hp
  unfold dAddL at hp
  split at hp
  · rename_i l l' e1 e2
    split at hp
    · rename_i h
      obtain ⟨p, vs, rfl, h1, h2⟩ := lst_h rm ra e1
      obtain ⟨p', vs', rfl, h3, h4⟩ := lst_h rm rb e2
      refine .inl (.inr (.inr (.inr ⟨_, _, _, _, rfl, rfl, h1, h3, ?_, hp.lay (α := D) rm fun p hn => ?_⟩)))
      · rw [← h2.length, ← h4.length]; exact le_line.mp h
      · exact .lst upd_same ((h2.append h4).mono (Ext.lay rm hn))
    · exact False.elim hp
  · exact False.elim hp
theorem fits_addN : Fits2 X W (fun x y H Q => rAddA x y H Q ∨ rCatA X.K x y H Q) dAddN := by
  intro m st σ x y v w Q rm ra rb hp
  unfold dAddN at hp
  split at hp
  · rename_i l l' e1 e2
    split at hp
    · rename_i h
      obtain ⟨p, vs, rfl, h1, h2⟩ := lst_h rm ra e1
      obtain ⟨p', vs', rfl, h3, h4⟩ := lst_h rm rb e2
      refine .inl (.inr (.inr (.inr ⟨_, _, _, _, rfl, rfl, h1, h3, ?_, post_new hp rm (h2.append h4)⟩)))
      rw [← h2.length, ← h4.length]; exact le_line.mp h
    · exact False.elim hp
  · exact False.elim hp
end
@[simp] theorem ev_dKey : type_of% @dKey.eq_def := @dKey.eq_def
@[simp] theorem ev_dDget : type_of% @dDget.eq_def := @dDget.eq_def
@[simp] theorem ev_dInD : type_of% @dInD.eq_def := @dInD.eq_def
@[simp] theorem ev_dGet : type_of% @dGet.eq_def := @dGet.eq_def
@[simp] theorem ev_isDict : type_of% @isDict.eq_def := @isDict.eq_def
@[simp] theorem ev_stDict : type_of% @stDict.eq_def := @stDict.eq_def
@[simp] theorem ev_rDput : type_of% @rDput.eq_def := @rDput.eq_def
@[simp] theorem ev_dDpop : type_of% @dDpop.eq_def := @dDpop.eq_def
@[simp] theorem ev_mkLG : type_of% @mkLG.eq_def := @mkLG.eq_def
@[simp] theorem ev_mkL : type_of% @mkL.eq_def := @mkL.eq_def
@[simp] theorem ev_rAugF : type_of% @rAugF.eq_def := @rAugF.eq_def
@[simp] theorem ev_dAddI : type_of% @dAddI.eq_def := @dAddI.eq_def
@[simp] theorem ev_lstH : type_of% @lstH.eq_def := @lstH.eq_def
@[simp] theorem ev_dAddL : type_of% @dAddL.eq_def := @dAddL.eq_def
@[simp] theorem ev_dAddN : type_of% @dAddN.eq_def := @dAddN.eq_def
end Sh
/-! Part ZH: sorted(d.items()). -/
namespace Sh
open PySem L2 He
open L2.DX (itemsO itemsO_ok)
def itemsD (l : List (Key × D)) : List D := l.map fun kv => .tup [kyD kv.1, kv.2]
open Classical in
@[simp] noncomputable def fSortI (f : EF) : EF := fun sg st => (f sg st).bind fun x st1 => match x with
  | .loc n => match st1[n]? with
    | some (.dict l) => if srtOk (itemsD l) then .ok (.lst (srtD (itemsD l))) st1 else .bad
    | _ => .bad
  | _ => .bad
open Classical in
@[simp] noncomputable def fSortIN (f : EF) : EF := fun sg st => (f sg st).bind fun x st1 => match x with
  | .loc n => match st1[n]? with
    | some (.dict l) => if srtOk (itemsD l) then .ok (.loc st1.length) (st1 ++ [.lst (srtD (itemsD l))]) else .bad
    | _ => .bad
  | _ => .bad
section
variable {X : Cx} {W : We}
def rItemsK : V → List V → Hp → VK → Prop := fun x xs H Q => ∃ (a : Addr) (kvs : List (Key × V)), x = .ref a ∧ xs = [] ∧ Rd H a (.dK kvs) ∧ ∀ p, H p = none → Q (.ref p) (upd H p (itemsO p a))
theorem mt_itemsK : MtR X "dict.items" rItemsK := by
  intro pins s σ H x xs v us Q I rx rxs h
  obtain ⟨a, kvs, rfl, rfl, ha, q⟩ := h
  cases rx
  cases rxs
  obtain ⟨z, hd, vs, rel, dd⟩ := dk_rd I.hok ha
  have hf : H s.heap.objs.size = none := I.hok.fresh (Nat.le_refl _)
  refine call_meetsIn PySem.F.slot_dict_items dd.typeIs PySem.F.entry_dict_items (PySem.F.args_dict_items_1 _) (meets_dict_items (mixKind X.prog X.w) a hd) ⟨⟨vs, dd⟩, ?_⟩
  exact ⟨.ref s.heap.objs.size, upd H s.heap.objs.size (itemsO s.heap.objs.size a), I.laid (t' := s.toks) (fun b u e => Heap.get?_push_of_some _ e) (Nat.le_refl _) (itemsO_ok (Heap.get?_push_size _ rfl)), rfl, q _ hf⟩
/-- the pairs that were collected are laid into the world -/
theorem take_tups {pins : List (Addr × Obj)} {s : Shared} {σ : St} {H0 : Hp} {h' : Heap} {tk : Nat} {m : Hw} {st : Sto} (I0 : Inv X pins σ H0 s) : ∀ (es : List (Addr × Key × D × V)) (m1 : Hw), Inv X pins σ m1.h { s with heap := h', toks := tk } → Ext m m1 → Rel X.K X.mg m1 st → (es.map (·.1)).Nodup →
    (∀ e ∈ es, s.heap.objs.size ≤ e.1 ∧ m1.h e.1 = none ∧ Rep X.K X.mg m.r m.g e.2.2.1 e.2.2.2 ∧ ∀ H2, ObjOk X.prog X.w H2 h' e.1 (.tup [kV e.2.1, e.2.2.2])) →
    ∃ m2, Inv X pins σ m2.h { s with heap := h', toks := tk } ∧ Ext m m2 ∧ Rel X.K X.mg m2 st ∧ Ext m1 m2 ∧ ∀ e ∈ es, Rep X.K X.mg m2.r m2.g (.tup [kyD e.2.1, e.2.2.1]) (.ref e.1)
  | [], m1, I1, x1, r1, _, _ => ⟨m1, I1, x1, r1, Ext.refl _, fun _ h => absurd h (by simp)⟩
  | e :: es, m1, I1, x1, r1, hn, h => by
    obtain ⟨hb, hnone, hrep, ok⟩ := h e List.mem_cons_self
    rw [List.map_cons, List.nodup_cons] at hn
    have I2 : Inv X pins σ (m1.lay e.1 (.tup [kV e.2.1, e.2.2.2])).h { s with heap := h', toks := tk } := I1.take (h' := h') (t' := tk) (fun b ob _ z => z) (I0.fpOk hb hnone) (ok _)
    have x2 : Ext m1 (m1.lay e.1 (.tup [kV e.2.1, e.2.2.2])) := Ext.lay r1 hnone
    obtain ⟨m2, I3, x3, r3, x4, q⟩ := take_tups I0 es _ I2 (x1.trans x2) (r1.lay hnone) hn.2 fun c hc => by
      obtain ⟨c1, c2, c3⟩ := h c (List.mem_cons_of_mem _ hc)
      refine ⟨c1, ?_, c3⟩
      show upd m1.h e.1 _ c.1 = none
      rw [upd_ne (fun z => hn.1 (by rw [← z]; exact List.mem_map.mpr ⟨c, hc, rfl⟩))]
      exact c2
    refine ⟨m2, I3, x3, r3, x2.trans x4, fun c hc => ?_⟩
    rcases List.mem_cons.mp hc with rfl | hc
    · exact Rep.mono x4 (.tup (.of upd_same) (.cons (kyD_rep _) (.cons (hrep.mono (x1.trans x2)) .nil)))
    · exact q c hc
/-- sorted of the view p of the dict a -/
def rSortV (X : Cx) (W : We) (σ : St) (N : Bool) : List V → Hp → VK → Prop := fun vs H Q => ∃ (p a : Addr) (m : Hw) (st : Sto) (n : Nat) (l : List (Key × D)), vs = [.ref p] ∧ H = upd m.h p (itemsO p a) ∧ m.h p = none ∧ Rel X.K X.mg m st ∧ m.r[n]? = some a ∧ kvS st[n]? = some l ∧ srtOk (itemsD l) ∧
  Post X.K X.mg W.w m σ (RD X.K X.mg) Q (if N = true then .ok (.loc st.length) (st ++ [.lst (srtD (itemsD l))]) else .ok (.lst (srtD (itemsD l))) st)
theorem cr_sortV (hc : X.calm = true) (hu : X.A.units + 64 < cLine) {N : Bool} {σ0 : St} : CallR X (.builtin "sorted") (rSortV X W σ0 N) := by
  intro pins s σ H vs us Q I r h
  obtain ⟨p, a, m, st, n, l, rfl, rfl, hpn, rm, ra, hl, ho, hp⟩ := h
  rw [Vals.ref1 r]
  have rm0 : Rel X.K X.mg (m.put p (itemsO p a)) st := rm.side (rm.fresh hpn) (rm.gnone hpn)
  have x0 : Ext m (m.put p (itemsO p a)) := (Ext.refl m).side hpn
  have view : s.heap.IsItemsView p a := (show ObjOk X.prog X.w (upd m.h p (itemsO p a)) s.heap p (itemsO p a) from I.hok p _ upd_same).1
  obtain ⟨a', kvs, ea, k1, k2⟩ := dict_rd rm (.loc ra) hl
  cases ea
  have hap : a ≠ p := fun z => by
    subst z
    rcases k1 with k1 | ⟨_, k1⟩ <;> rw [hpn] at k1 <;> cases k1
  have k1' : Rd (upd m.h p (itemsO p a)) a (.dK kvs) := by
    rcases k1 with k1 | ⟨o, k1⟩
    · exact .inl (by rw [upd_ne hap]; exact k1)
    · exact .inr ⟨o, by rw [upd_ne hap]; exact k1⟩
  obtain ⟨z, hd, xs, rel, dd⟩ := dk_rd I.hok k1'
  obtain ⟨ep, hat⟩ := dd.dictAt
  obtain ⟨⟨ds, h1⟩, h2, h3, h4, h5⟩ := ho
  obtain ⟨_, hpy⟩ := toPys_map h1
  obtain ⟨q1, q2⟩ := KRel.to k2
  have hkl : kvs.length = l.length := by have := congrArg List.length q1; simpa using this
  have hil : (itemsD l).length = l.length := by simp [itemsD]
  have hxl : xs.length = kvs.length := (Paired.length rel).symm
  have hsz : xs.length ≤ sizeLine := by rw [hxl, hkl, sizeLine_eq]; omega
  -- what is at each place
  have at_ : ∀ (j : Nat), j < l.length → ∃ k d v x, l[j]? = some (k, d) ∧ kvs[j]? = some (k, v) ∧ xs[j]? = some (k, x) ∧ RelV v x ∧ Rep X.K X.mg m.r m.g d v := fun j hj => by
    obtain ⟨⟨k, d⟩, hd⟩ : ∃ kd, l[j]? = some kd := ⟨l[j], List.getElem?_eq_getElem hj⟩
    obtain ⟨v, a1, a2⟩ := kv_at q1 q2 hd
    obtain ⟨x, b1, b2⟩ := kv_get rel a1
    exact ⟨k, d, v, x, hd, a1, b1, b2, a2⟩
  refine sorted_col (β := D) (enc := pyD) (P := fun us s1 => ∃ (h' : Heap) (tk : Nat) (as : List Addr), s1 = { s with heap := h', toks := tk } ∧ (∀ b o, s.heap.get? b = some o → h'.get? b = some o) ∧ as.length = xs.length ∧ PySem.W.KdxG (mixKind X.prog X.w) xs s.heap.objs.size h' as ∧ us = as.map Value.ref) (PyProof.Rows.args_sorted1 _) (fun E' Q' hq => ?_) fun us s1 hP => ?_
  · exact PySem.W.kdx_collect (knd := mixKind X.prog X.w) (kvs := xs) (ep := ep) (I.ok.hd hc) view hat hsz fun h' tk as hk hlen G => hq _ _ ⟨h', tk, as, rfl, hk, hlen, G, rfl⟩
  · obtain ⟨h', tk, as, rfl, hk, hlen, G, rfl⟩ := hP
    have I1 : Inv X pins σ (m.put p (itemsO p a)).h { s with heap := h', toks := tk } := I.kept (t' := tk) hk
    -- the pairs with their places
    have hle : as.length = l.length := by rw [hlen, hxl, hkl]
    obtain ⟨es, e1, e2, e3⟩ : ∃ es : List (Addr × Key × D × V), es.map (·.1) = as ∧ (es.map fun e => D.tup [kyD e.2.1, e.2.2.1]) = itemsD l ∧
        ∀ e ∈ es, s.heap.objs.size ≤ e.1 ∧ Rep X.K X.mg m.r m.g e.2.2.1 e.2.2.2 ∧ ∀ H2, ObjOk X.prog X.w H2 h' e.1 (.tup [kV e.2.1, e.2.2.2]) := by
      refine ⟨(List.range l.length).map fun j => (as[j]?.getD 0, (l[j]?.getD (.inl 0, .non)).1, (l[j]?.getD (.inl 0, .non)).2, (kvs[j]?.getD (.inl 0, .non)).2), ?_, ?_, fun e he => ?_⟩
      · rw [List.map_map]
        refine List.ext_getElem (by simp [hle]) fun j hj _ => ?_
        simp at hj
        simp [hle, hj]
      · unfold itemsD
        rw [List.map_map]
        refine List.ext_getElem (by simp) fun j hj _ => ?_
        simp at hj
        simp [hj]
      · obtain ⟨j, hj, rfl⟩ := List.mem_map.mp he
        have hj := List.mem_range.mp hj
        obtain ⟨k, d, v, x, a1, a2, a3, a4, a5⟩ := at_ j hj
        have hja : as[j]? = some as[j] := List.getElem?_eq_getElem (by omega)
        obtain ⟨key, k', x', b1, b2, b3⟩ := G.pairs j _ hja
        rw [a3] at b1
        cases b1
        rw [a1, a2, hja]
        refine ⟨Nat.le_of_lt (G.above _ (List.getElem_mem _)), a5, fun H2 => ?_⟩
        exact ⟨by show 2 ≤ sizeLine; decide, [key, x], .cons (relV_key (show keyIs k key = true from b2)) (.cons a4 .nil), ⟨_, b3, rfl, _, rfl⟩⟩
    have nd : (es.map (·.1)).Nodup := by
      rw [e1, List.nodup_iff_pairwise_ne]
      exact G.rise.imp fun h => Nat.ne_of_lt h
    obtain ⟨m2, I2, x2, r2, _, q2⟩ := take_tups (h' := h') (tk := tk) I es (m.put p (itemsO p a)) I1 x0 rm0 nd fun e he => by
      obtain ⟨c1, c2, c3⟩ := e3 e he
      exact ⟨c1, I.hok.fresh c1, c2, c3⟩
    have ee : PySem.W.EachIs (fun (u : Value) (d : D) => ∃ v, RelV v u ∧ Rep X.K X.mg m2.r m2.g d v) (as.map Value.ref) (itemsD l) := by
      rw [← e1, ← e2, List.map_map]
      clear e1 e2 e3 nd
      induction es with
      | nil => exact .nil
      | cons e es ih => exact .cons ⟨.ref e.1, rfl, q2 e List.mem_cons_self⟩ (ih fun c hc => q2 c (List.mem_cons_of_mem _ hc))
    have er : PySem.W.EachIs (fun (u : Value) (d : D) => ∃ as, PySem.Reads h' u (pyD d) as) (as.map Value.ref) (itemsD l) := by
      obtain ⟨vs', rp, rv⟩ := each_back ee
      exact each_reads (s := { s with heap := h', toks := tk }) I2 r2 rp rv hpy
    refine ⟨_, itemsD l, ee, er, h2, h3, by rw [sizeLine_eq]; omega, fun x hx => by have := h4 x hx; omega, fun h3 out ep k2 hat hE => ?_⟩
    obtain ⟨vs', q', rv'⟩ := each_back hE
    have hlen' : vs'.length ≤ sizeLine := by
      rw [← q'.length]
      show (srtD (itemsD l)).length ≤ _
      rw [srt_length, sizeLine_eq]; omega
    have hfr : m2.h h'.objs.size = none := I2.hok.fresh (Nat.le_refl _)
    have I3 : Inv X pins σ (upd m2.h h'.objs.size (.lst vs')) { s with heap := h3, toks := tk } := I2.laid (t' := tk) k2 (Nat.le_refl _) ⟨hlen', out, ep, rv', hat⟩
    have hp2 := Post.mono hp x2
    refine ⟨.ref h'.objs.size, _, I3, rfl, ?_⟩
    cases N with
    | true => exact post_new hp2 r2 q' _ hfr
    | false => exact hp2.lay (α := D) r2 (fun p hn => .lst upd_same (q'.mono (Ext.lay r2 hn))) _ hfr
variable {e : Expr} {f : EF} {x : Str} {p pos apos cpos : Pos}
theorem sortV_TE {N : Bool} {F : EF} (hF : ∀ sg st, F sg st = (f sg st).bind fun x st1 => match x with
    | .loc n => match st1[n]? with
      | some (.dict l) => open Classical in if srtOk (itemsD l) then (if N = true then .ok (.loc st1.length) (st1 ++ [.lst (srtD (itemsD l))]) else .ok (.lst (srtD (itemsD l))) st1) else .bad
      | _ => .bad
    | _ => .bad) {σ : St} {H : Hp} {Q : VK} (h : TOf X.K X.mg W (RD X.K X.mg) F σ H Q) : tCB (rSortV X W σ N) (tCons (tBM0 X.K "dict" rItemsK (TOf X.K X.mg W (RD X.K X.mg) f)) tNil) σ H Q := by
  obtain ⟨m, sg, st, e, rm, rs, hp⟩ := h
  rw [hF] at hp
  refine ⟨m, sg, st, e, rm, rs, hp.bindc fun m1 y v st1 e1 r1 q1 hp1 => ?_⟩
  split at hp1
  · rename_i n
    split at hp1
    · rename_i l hl
      split at hp1
      · rename_i ho
        obtain ⟨a, kvs, rfl, k1, k2⟩ := dict_at r1 q1 hl
        cases q1 with
        | loc ra =>
          refine ⟨?_, a, kvs, rfl, rfl, .inl k1, fun p hn => ?_⟩
          · unfold tyV; simp [k1]
          · exact ⟨p, a, m1, st1, n, l, rfl, rfl, hn, r1, ra, by rw [hl]; rfl, ho, hp1⟩
      · exact False.elim hp1
    · exact False.elim hp1
  · exact False.elim hp1
theorem pe_sortV (hc : X.calm = true) (hu : X.A.units + 64 < cLine) (hg : Gl X x) (hm : X.mg x = none) (hv : bootBuiltins x = some (.builtin "sorted")) (he : SE X W e f) {N : Bool} {σ : St} (hn : x ≠ "__name__" := by decide) (hdb : (x == ("__debug__" : Str)) = false := by decide)
    (hb : attributeBase e "items" X.env (eval e X.env) = eval e X.env := by rfl) (hl : (apos.endLine == cpos.line) = true := by rfl)
    (h1 : starEach [.Call (.Attribute e "items" apos) [] [] cpos] X.env = (false, eval (.Call (.Attribute e "items" apos) [] [] cpos) X.env) :: starEach [] X.env := by rfl) (hpl : (backTo pos (starEach [] X.env)).any (·.1) = false := by rfl) :
    PE X (.Call (.Name x p) [.Call (.Attribute e "items" apos) [] [] cpos] [] pos) (tCB (rSortV X W σ N) (tCons (tBM0 X.K "dict" rItemsK (TOf X.K X.mg W (RD X.K X.mg) f)) tNil)) :=
  pe_callB (cr_sortV hc hu) hg hm hv (pa_cons (pe_bm0 PySem.F.plainAttrs_dict PySem.F.slot_dict_items PySem.F.type_dict_items mt_itemsK he hb hl) pa_nil h1) hn hdb h1 hpl
theorem se_sortI (hc : X.calm = true) (hu : X.A.units + 64 < cLine) (hg : Gl X x) (hm : X.mg x = none) (hv : bootBuiltins x = some (.builtin "sorted")) (he : SE X W e f) (hn : x ≠ "__name__" := by decide) (hdb : (x == ("__debug__" : Str)) = false := by decide)
    (hb : attributeBase e "items" X.env (eval e X.env) = eval e X.env := by rfl) (hl : (apos.endLine == cpos.line) = true := by rfl)
    (h1 : starEach [.Call (.Attribute e "items" apos) [] [] cpos] X.env = (false, eval (.Call (.Attribute e "items" apos) [] [] cpos) X.env) :: starEach [] X.env := by rfl) (hpl : (backTo pos (starEach [] X.env)).any (·.1) = false := by rfl) :
    SE X W (.Call (.Name x p) [.Call (.Attribute e "items" apos) [] [] cpos] [] pos) (fSortI f) :=
  ⟨fun pins s σ H Q I h => (pe_sortV (N := false) (W := W) (σ := σ) hc hu hg hm hv he hn hdb hb hl h1 hpl).run pins s σ H Q I (sortV_TE (F := fSortI f) (N := false) (fun sg st => by
    unfold fSortI; congr 1) h)⟩
theorem se_sortIN (hc : X.calm = true) (hu : X.A.units + 64 < cLine) (hg : Gl X x) (hm : X.mg x = none) (hv : bootBuiltins x = some (.builtin "sorted")) (he : SE X W e f) (hn : x ≠ "__name__" := by decide) (hdb : (x == ("__debug__" : Str)) = false := by decide)
    (hb : attributeBase e "items" X.env (eval e X.env) = eval e X.env := by rfl) (hl : (apos.endLine == cpos.line) = true := by rfl)
    (h1 : starEach [.Call (.Attribute e "items" apos) [] [] cpos] X.env = (false, eval (.Call (.Attribute e "items" apos) [] [] cpos) X.env) :: starEach [] X.env := by rfl) (hpl : (backTo pos (starEach [] X.env)).any (·.1) = false := by rfl) :
    SE X W (.Call (.Name x p) [.Call (.Attribute e "items" apos) [] [] cpos] [] pos) (fSortIN f) :=
  ⟨fun pins s σ H Q I h => (pe_sortV (N := true) (W := W) (σ := σ) hc hu hg hm hv he hn hdb hb hl h1 hpl).run pins s σ H Q I (sortV_TE (F := fSortIN f) (N := true) (fun sg st => by
    unfold fSortIN; congr 1) h)⟩
end
end Sh
/-! Part ZI: range with a step -/
namespace Sh
open PySem L2
section
variable {X : Cx} {W : We} {tg a b c : Expr} {p pos : Pos} {g : AF}
def rngC (lo c : Int) (n : Nat) : List D := (List.range n).map fun (i : Nat) => .int (lo + (i : Int) * c)
theorem itc_ok {K : PySem.W.Frag} {mg : Str → Option Value} {m : Hw} {lo c : Int} {n : Nat} {ck : Sto → Prop} : ItOk K mg m (Itc lo c n) (rngC lo c n) ck := by
  intro m1 st1 e1 r1 c1 i
  refine ⟨fun hl => by
    have hl' : n ≤ i := by simpa [rngC] using hl
    exact hl', fun d hd => ?_⟩
  unfold rngC at hd
  rw [List.getElem?_map] at hd
  by_cases hi : i < n
  · rw [List.getElem?_range hi] at hd
    cases hd
    exact ⟨hi, fun x H' ⟨e, y⟩ => ⟨m1, e.symm, Ext.refl _, r1, by rw [y]; exact .int _⟩⟩
  · rw [List.getElem?_eq_none (by simpa using hi)] at hd
    cases hd
open Classical in
noncomputable def iRange3 (g : AF) : IF := fun sg st => (g sg st).bind fun l st1 => match l with
  | [.int i, .int j, .int c] => if RgC i j c (Builtin.Range.rangeSize i j c).toNat then .ok ⟨rngC i c (Builtin.Range.rangeSize i j c).toNat, fun _ => True⟩ st1 else .bad
  | _ => .bad
theorem si_range3 (hg : Gl X "range") (hm : X.mg "range" = none) (ha : SA X W [a, b, c] g)
    (hs : starEach [a, b, c] X.env = (false, eval a X.env) :: starEach [b, c] X.env := by rfl) (hpl : (backTo pos (starEach [b, c] X.env)).any (·.1) = false := by rfl) : SI X W tg (.Call (.Name "range" p) [a, b, c] [] pos) (iRange3 g) :=
  pi_weak (pi_range3 hg hm ha hs hpl) fun σ H R ⟨m, sg, st, e, rm, rs, hp⟩ => ⟨m, sg, st, e, rm, rs, by
    unfold iRange3 at hp
    exact hp.bindc fun m1 l vs st1 e1 r1 q1 hp1 => by
      split at hp1
      · cases q1 with
        | cons h1 q2 => cases q2 with
          | cons h2 q3 => cases q3 with
            | cons h3 q4 =>
              cases q4; cases h1; cases h2; cases h3
              split at hp1
              · rename_i h
                exact ⟨_, _, _, _, rfl, h, hp1.okc r1 itc_ok⟩
              · exact False.elim hp1
      · exact False.elim hp1⟩
end
theorem iRange3_down {g : AF} {sg : Sg} {st st1 : Sto} {i j : Int} (h : g sg st = .ok [.int i, .int j, .int (-1)] st1) (ha : -(2 ^ 62) ≤ i) (ha' : i < 2 ^ 62) (hb : -(2 ^ 62) ≤ j) (hb' : j < 2 ^ 62) : iRange3 g sg st = .ok ⟨rngC i (-1) (i - j).toNat, fun _ => True⟩ st1 := by
  have r := RgC.neg ha ha' hb hb'
  have e : (Builtin.Range.rangeSize i j (-1)).toNat = (i - j).toNat := by rw [r.2.2.2]; rfl
  unfold iRange3
  rw [h]
  rw [← e] at r ⊢
  exact if_pos r
end Sh
/-! Part ZJ: a text's [::-1] -/
namespace Sh
open PySem PySem.Spec PyProof.Rows L2
/-- the text's signs from its end, as the interpreter picks them -/
def revS (z : Str) : Str := ⟨((Builtin.Str.strSliceIndices none none (-1) z.length).filterMap (z.cps[·]?)).toArray⟩
def tRevS (te : TE) : TE := fun σ H Q => te σ H fun x H1 => ∃ z, x = .str z ∧ (revS z).length ≤ sizeLine ∧ Q (.str (revS z)) H1
section
variable {X : Cx} {W : We} {e : Expr} {te : TE} {k : Nat} {p1 p2 p3 pos : Pos} {f : EF}
theorem pe_revS (he : PE X e te) : PE X (.Subscript e (.Slice none none (some (.UnaryOp .USub (.Constant (.int 1) k p1) p2)) p3) pos) (tRevS te) := by
  refine ⟨fun pins s σ H Q I h => ?_⟩
  refine Subscript_ (thn (he.run pins s σ H _ I h) fun v s1 ⟨x, H1, I1, r1, q1⟩ => ?_)
  obtain ⟨z, ex, hz, q⟩ := q1
  subst ex
  obtain ⟨t, rfl⟩ := r1
  have hst : PO X (some (.UnaryOp .USub (.Constant (.int 1) k p1) p2)) (tPart (tUn (rU fun i => .int (-i)) (tC (.int 1)))) := po_some (pe_un un_neg pe_int)
  refine wpAny_Slice (thn (po_none.run pins s1 σ H1 (fun o H2 => o = none ∧ H2 = H1) I1 ⟨rfl, rfl⟩) fun vl s2 ⟨l, H2, I2, pl, el, e2⟩ => ?_)
  subst el e2
  refine thn (po_none.run pins s2 σ H2 (fun o H3 => o = none ∧ H3 = H2) I2 ⟨rfl, rfl⟩) fun vu s3 ⟨u, H3, I3, pu, eu, e3⟩ => ?_
  subst eu e3
  refine thn (hst.run pins s3 σ H3 (fun o H4 => o = some (-1) ∧ H4 = H3) I3 ⟨1, rfl, -1, rfl, rfl, rfl⟩) fun vs s4 ⟨o, H4, I4, ps, eo, e4⟩ => ?_
  subst eo e4
  have I5 : Inv X pins σ H4 { s4 with heap := s4.heap.push { cls := .type "slice", data := .fields #[vl, vu, vs] } } := I4.kept (t' := s4.toks) fun b ob q => Heap.get?_push_of_some _ q
  obtain ⟨l, rfl, hl⟩ := IsPart.raw pl
  obtain ⟨u, rfl, hu⟩ := IsPart.raw pu
  obtain ⟨w, rfl, hw⟩ := IsPart.raw ps
  show wpAny (model X.prog X.w) X.A (subscriptTail e (.Slice none none (some (.UnaryOp .USub (.Constant (.int 1) k p1) p2)) p3) (.str z t) (.ref s4.heap.objs.size)) (EP X pins σ Q) X.xe { s4 with heap := s4.heap.push { cls := .type "slice", data := .fields #[PySem.partValue l, PySem.partValue u, PySem.partValue w] } }
  refine tail_any (ops := [.str z t, .ref s4.heap.objs.size]) (typeIs_str _ _ _) (PySem.F.slot_str_getitem.lookup) ?_ (by with_unfolding_all rfl)
  refine wpAny_getItem_str_slice (l := l) (u := u) (st := w) ⟨_, Heap.get?_push_size _ rfl, rfl, rfl⟩ (by rw [hw]; rfl) ?_
  have e1 : PySem.sliceMade z t l u w = .str (revS z) := by
    unfold PySem.sliceMade PySem.slicePicked revS
    rw [hl, hu, hw]
    rfl
  rw [e1]
  exact ⟨hz, .str _, H4, I5.tok _, ⟨_, rfl⟩, q⟩
@[simp] def fRevS (f : EF) : EF := fun sg st => (f sg st).bind fun x st1 => match x with
  | .str z => if (revS z).length ≤ 16777216 then .ok (.str (revS z)) st1 else .bad
  | _ => .bad
theorem se_revS (he : SE X W e f) : SE X W (.Subscript e (.Slice none none (some (.UnaryOp .USub (.Constant (.int 1) k p1) p2)) p3) pos) (fRevS f) :=
  pe_weak (pe_revS he) fun σ H Q ⟨m, sg, st, em, rm, rs, hp⟩ => ⟨m, sg, st, em, rm, rs, hp.bindc fun m1 x v st1 e1 r1 q1 hp1 => by
    split at hp1
    · cases q1 with
      | str =>
        split at hp1
        · rename_i h
          exact ⟨_, rfl, by rw [sizeLine_eq]; exact h, hp1.okc r1 (.str _)⟩
        · exact False.elim hp1
    · exact False.elim hp1⟩
end
end Sh
/-! Part ZK: sum and min of a list of ints -/
namespace Sh
open PySem L2
def bSum : List D → Sto → Res D
  | [x], st => match (lstOf x st).bind intsOfD with
    | some ns => .ok (.int ns.sum) st
    | none => .bad
  | _, _ => .bad
def bMinL : List D → Sto → Res D
  | [x], st => match (lstOf x st).bind intsOfD with
    | some (n :: ns) => .ok (.int (PySem.W.minOf n ns)) st
    | _ => .bad
  | _, _ => .bad
theorem foldl_min : ∀ (ns : List Int) (n : Int), PySem.W.minOf n ns ∈ n :: ns ∧ ∀ y ∈ n :: ns, PySem.W.minOf n ns ≤ y
  | [], n => ⟨by simp [PySem.W.minOf], fun y hy => by
      have e : y = n := by simpa using hy
      rw [e]; exact Int.le_refl _⟩
  | m :: ns, n => by
    have e : PySem.W.minOf n (m :: ns) = PySem.W.minOf (if PySem.W.DatumOrd.lt m n = true then m else n) ns := rfl
    have lt : PySem.W.DatumOrd.lt m n = decide (m < n) := rfl
    rw [e, lt]
    by_cases c : m < n
    · rw [if_pos (decide_eq_true c)]
      obtain ⟨a, b⟩ := foldl_min ns m
      refine ⟨List.mem_cons_of_mem _ a, fun y hy => ?_⟩
      rcases List.mem_cons.mp hy with rfl | hy
      · exact Int.le_trans (b m List.mem_cons_self) (Int.le_of_lt c)
      · exact b y hy
    · rw [if_neg (by simpa using c)]
      obtain ⟨a, b⟩ := foldl_min ns n
      refine ⟨?_, fun y hy => ?_⟩
      · rcases List.mem_cons.mp a with h | h
        · rw [h]; exact List.mem_cons_self
        · exact List.mem_cons_of_mem _ (List.mem_cons_of_mem _ h)
      · rcases List.mem_cons.mp hy with rfl | hy
        · exact b y List.mem_cons_self
        · rcases List.mem_cons.mp hy with rfl | hy
          · exact Int.le_trans (b n List.mem_cons_self) (by omega)
          · exact b y (List.mem_cons_of_mem _ hy)
section
variable {X : Cx} {W : We}
theorem fits_sum : FitsL X W (rSum X.K) bSum := by
  intro m st σ l vs Q rm ra hp
  unfold bSum at hp
  split at hp
  · obtain ⟨v, rfl, hv⟩ := reps1 ra
    split at hp
    · rename_i ns h
      obtain ⟨l, h1, h2⟩ := Option.bind_eq_some_iff.mp h
      obtain ⟨q, ws, rfl, k1, k2⟩ := lst_of rm hv h1
      exact ⟨_, ns, rfl, by rw [← ints_rep k2 h2]; exact k1, hp.okc rm (.int _)⟩
    · exact False.elim hp
  · exact False.elim hp
theorem fits_minL : FitsL X W (rMin X.K) bMinL := by
  intro m st σ l vs Q rm ra hp
  unfold bMinL at hp
  split at hp
  · obtain ⟨v, rfl, hv⟩ := reps1 ra
    split at hp
    · rename_i n ns h
      obtain ⟨l, h1, h2⟩ := Option.bind_eq_some_iff.mp h
      obtain ⟨q, ws, rfl, k1, k2⟩ := lst_of rm hv h1
      obtain ⟨a, b⟩ := foldl_min ns n
      refine ⟨_, n :: ns, rfl, by rw [← ints_rep k2 h2]; exact k1, Nat.succ_pos _, fun mm h3 h4 => ?_⟩
      have : mm = PySem.W.minOf n ns := Int.le_antisymm (h4 _ a) (b _ h3)
      rw [this]
      exact hp.okc rm (.int _)
    · exact False.elim hp
  · exact False.elim hp
end
@[simp] theorem ev_bSum : type_of% @bSum.eq_def := @bSum.eq_def
@[simp] theorem ev_bMinL : type_of% @bMinL.eq_def := @bMinL.eq_def
end Sh
/-! Part ZL: tuple(range(..)), list(range(..)), list(a dict) -/
namespace Sh
open PySem L2 He
section
variable {X : Cx} {W : We} {a b : Expr} {fa fb : EF} {pos p p2 pos2 : Pos}
def rgD (i j : Int) : List D := (List.range (j - i).toNat).map fun (k : Nat) => D.int (i + (k : Int))
instance rgOk_dec (i j : Int) : Decidable (RgOk i j) := by unfold RgOk; infer_instance
theorem rg_reps {m : Hw} (i j : Int) : Reps X.K X.mg m.r m.g (rgD i j) (rgV i j) := by
  have z := reps_ints (X := X) (m := m) ((List.range (j - i).toNat).map fun (k : Nat) => i + (k : Int))
  rw [List.map_map, List.map_map] at z
  exact z
def kRgT (i j : Int) (st : Sto) : Res D := if RgOk i j then .ok (.tup (rgD i j)) st else .bad
def kRgL (i j : Int) (st : Sto) : Res D := if RgOk i j then .ok (.lst (rgD i j)) st else .bad
def kRgLN (i j : Int) (st : Sto) : Res D := if RgOk i j then .ok (.loc st.length) (st ++ [.lst (rgD i j)]) else .bad
@[simp] def fRg1 (k : Int → Int → Sto → Res D) (fa : EF) : EF := fun sg st => (fa sg st).bind fun x st1 => match x with
  | .int n => k 0 n st1
  | _ => .bad
@[simp] def fRg2 (k : Int → Int → Sto → Res D) (fa fb : EF) : EF := fun sg st => (fa sg st).bind fun x st1 => (fb sg st1).bind fun y st2 => match x, y with
  | .int i, .int j => k i j st2
  | _, _ => .bad
def KRg (X : Cx) (W : We) (o : List V → HO) (k : Int → Int → Sto → Res D) : Prop := ∀ (m : Hw) (st : Sto) (σ : St) (i j : Int) (Q : VK), Rel X.K X.mg m st → Post X.K X.mg W.w m σ (RD X.K X.mg) Q (k i j st) → RgOk i j ∧ ∀ q, m.h q = none → Q (.ref q) (upd m.h q (o (rgV i j)))
theorem krg_t : KRg X W .tup kRgT := by
  intro m st σ i j Q rm hp
  unfold kRgT at hp
  split at hp
  · rename_i h
    refine ⟨h, hp.lay (α := D) rm fun p hn => ?_⟩
    exact .tup (.of upd_same) (rg_reps i j)
  · exact False.elim hp
theorem krg_l : KRg X W .lst kRgL := by
  intro m st σ i j Q rm hp
  unfold kRgL at hp
  split at hp
  · rename_i h
    refine ⟨h, hp.lay (α := D) rm fun p hn => ?_⟩
    exact .lst upd_same (rg_reps i j)
  · exact False.elim hp
theorem krg_n : KRg X W .lst kRgLN := by
  intro m st σ i j Q r1 hp1
  unfold kRgLN at hp1
  split at hp1
  · rename_i h
    refine ⟨h, fun p hn => ?_⟩
    refine hp1 (m.new p (.lst (rgV i j))) (.ref p) (Ext.new r1 hn) (r1.new hn ⟨_, upd_same, rg_reps i j (m := m.new p (.lst (rgV i j)))⟩) (.loc ?_)
    show (m.r ++ [p])[st.length]? = some p
    rw [← r1.len, List.getElem?_append_right (Nat.le_refl _)]
    simp
  · exact False.elim hp1
theorem tRg1_of {o : List V → HO} {k : Int → Int → Sto → Res D} (hk : KRg X W o k) {σ : St} {H : Hp} {Q : VK} (h : TOf X.K X.mg W (RD X.K X.mg) (fRg1 k fa) σ H Q) : tRg1 (TOf X.K X.mg W (RD X.K X.mg) fa) σ H fun a b H1 => RgOk a b ∧ ∀ q, H1 q = none → Q (.ref q) (upd H1 q (o (rgV a b))) := by
  obtain ⟨m, sg, st, rfl, rm, rs, hp⟩ := h
  refine ⟨m, sg, st, rfl, rm, rs, hp.bindc fun m1 x v st1 e1 r1 q1 hp1 => ?_⟩
  split at hp1
  · rename_i n
    cases q1
    exact ⟨n, rfl, hk m1 st1 σ 0 n Q r1 hp1⟩
  · exact False.elim hp1
theorem tRg2_of {o : List V → HO} {k : Int → Int → Sto → Res D} (hk : KRg X W o k) {σ : St} {H : Hp} {Q : VK} (h : TOf X.K X.mg W (RD X.K X.mg) (fRg2 k fa fb) σ H Q) : tRg2 (TOf X.K X.mg W (RD X.K X.mg) fa) (TOf X.K X.mg W (RD X.K X.mg) fb) σ H fun a b H1 => RgOk a b ∧ ∀ q, H1 q = none → Q (.ref q) (upd H1 q (o (rgV a b))) := by
  obtain ⟨m, sg, st, rfl, rm, rs, hp⟩ := h
  refine ⟨m, sg, st, rfl, rm, rs, hp.bindc fun m1 x v st1 e1 r1 q1 hp1 => ⟨m1, sg, st1, rfl, r1, rs.mono e1, hp1.bindc fun m2 y w st2 e2 r2 q2 hp2 => ?_⟩⟩
  split at hp2
  · rename_i i j
    cases q1.mono e2
    cases q2
    exact ⟨i, j, rfl, rfl, hk m2 st2 σ i j Q r2 hp2⟩
  · exact False.elim hp2
theorem se_tupRg1 (hc : X.calm = true) (hg : Gl X "tuple") (hm : X.mg "tuple" = none) (hg2 : Gl X "range") (hm2 : X.mg "range" = none) (ha : SE X W a fa) (na : starEach [a] X.env = (false, eval a X.env) :: starEach [] X.env := by rfl)
    (nb : starEach [.Call (.Name "range" p2) [a] [] pos2] X.env = (false, eval (.Call (.Name "range" p2) [a] [] pos2) X.env) :: starEach [] X.env := by rfl) : SE X W (.Call (.Name "tuple" p) [.Call (.Name "range" p2) [a] [] pos2] [] pos) (fRg1 kRgT fa) :=
  pe_weak (pe_tupRg hc hg hm (prg_1 hg2 hm2 ha na) nb) fun _ _ _ h => tRg1_of krg_t h
theorem se_listRg1 (hc : X.calm = true) (hg : Gl X "list") (hm : X.mg "list" = none) (hg2 : Gl X "range") (hm2 : X.mg "range" = none) (ha : SE X W a fa) (na : starEach [a] X.env = (false, eval a X.env) :: starEach [] X.env := by rfl)
    (nb : starEach [.Call (.Name "range" p2) [a] [] pos2] X.env = (false, eval (.Call (.Name "range" p2) [a] [] pos2) X.env) :: starEach [] X.env := by rfl) : SE X W (.Call (.Name "list" p) [.Call (.Name "range" p2) [a] [] pos2] [] pos) (fRg1 kRgL fa) :=
  pe_weak (pe_listRg hc hg hm (prg_1 hg2 hm2 ha na) nb) fun _ _ _ h => tRg1_of krg_l h
theorem se_listRgN1 (hc : X.calm = true) (hg : Gl X "list") (hm : X.mg "list" = none) (hg2 : Gl X "range") (hm2 : X.mg "range" = none) (ha : SE X W a fa) (na : starEach [a] X.env = (false, eval a X.env) :: starEach [] X.env := by rfl)
    (nb : starEach [.Call (.Name "range" p2) [a] [] pos2] X.env = (false, eval (.Call (.Name "range" p2) [a] [] pos2) X.env) :: starEach [] X.env := by rfl) : SE X W (.Call (.Name "list" p) [.Call (.Name "range" p2) [a] [] pos2] [] pos) (fRg1 kRgLN fa) :=
  pe_weak (pe_listRg hc hg hm (prg_1 hg2 hm2 ha na) nb) fun _ _ _ h => tRg1_of krg_n h
theorem se_tupRg2 (hc : X.calm = true) (hg : Gl X "tuple") (hm : X.mg "tuple" = none) (hg2 : Gl X "range") (hm2 : X.mg "range" = none) (ha : SE X W a fa) (hb : SE X W b fb) (na : starEach [a, b] X.env = (false, eval a X.env) :: starEach [b] X.env := by rfl)
    (nb : starEach [b] X.env = (false, eval b X.env) :: starEach [] X.env := by rfl) (hp : (backTo pos2 (starEach [b] X.env)).any (·.1) = false := by rfl)
    (nc : starEach [.Call (.Name "range" p2) [a, b] [] pos2] X.env = (false, eval (.Call (.Name "range" p2) [a, b] [] pos2) X.env) :: starEach [] X.env := by rfl) : SE X W (.Call (.Name "tuple" p) [.Call (.Name "range" p2) [a, b] [] pos2] [] pos) (fRg2 kRgT fa fb) :=
  pe_weak (pe_tupRg hc hg hm (prg_2 hg2 hm2 ha hb na nb hp) nc) fun _ _ _ h => tRg2_of krg_t h
end
end Sh
/-! Part ZM: x in d.values(), texts. -/
namespace PySem
open Sem (wp)
theorem vw_plain : plainId "proto.contains_iter" = true := by decide +kernel
theorem vw_entry : entryFor table "proto.contains_iter" = some Builtin.«proto.contains_iter» := entryFor_of_fast (by kernel_rfl)
theorem vw_look : typeLookup (.type "dict_values") "__contains__" = pure none := by rw [typeLookup_type, builtinLookup_eq_fast]; kernel_rfl
def vwHas {K : Type} (x : Str) (l : List (K × Value)) : Bool := l.any fun kv => match kv.2 with
  | .str y _ => decide (y = x)
  | _ => false
section
variable {K : Type} [DecidableEq K] {prog : Program} {w : World} {knd : KeyKind prog w K} {A : Around} {E : Value → Shared → Prop}
theorem vw_loop {Q : Value → Shared → Prop} {it d : Addr} {ep : Nat} {kvs : List (K × Value)} {x : Str} {t : Tok} (hh : A.handled = none) (hne : d ≠ it) (ht : ∀ kv ∈ kvs, ∃ y u, kv.2 = .str y u) : ∀ (n i : Nat) (s : Shared), kvs.length - i = n → s.heap.IsValIter it d i kvs.length ep → s.heap.DictAt knd d kvs ep →
    (∀ h', (∀ b o, b ≠ it → s.heap.get? b = some o → h'.get? b = some o) → Q (.bool (vwHas x (kvs.drop i))) { s with heap := h' }) → codeAny (model prog w) A (.builtin "proto.contains_iter" ⟨[.ref it, .str x t], []⟩) (wants Q E) s := by
  intro n
  induction n with
  | zero =>
    intro i s hn hi hm hq
    refine codeAny_builtin vw_entry ?_
    rw [Around.under_plainId vw_plain _]
    have hnone : kvs[i]? = none := List.getElem?_eq_none (by omega)
    unfold Builtin.«proto.contains_iter»
    show wpAny _ A.in1 (pyNext (.ref it) >>= _) _ _ s
    refine wpAny_bind (wpAny_pyNext_values_end hh hi hm hnone fun h' eb => ?_)
    refine wpAny_bind (wpAny_rule ?_)
    refine wpAny_pure ?_
    have := hq h' (fun b o hb e => eb b o hb e)
    rw [List.drop_eq_nil_of_le (by omega)] at this
    exact this
  | succ n ih =>
    intro i s hn hi hm hq
    refine codeAny_builtin vw_entry ?_
    rw [Around.under_plainId vw_plain _]
    have hlt : i < kvs.length := by omega
    obtain ⟨⟨k, v⟩, hkv⟩ : ∃ p, kvs[i]? = some p := ⟨kvs[i], List.getElem?_eq_getElem hlt⟩
    obtain ⟨y, u, hy⟩ := ht (k, v) (List.mem_of_getElem? hkv)
    have hy : v = .str y u := hy
    subst hy
    have hdrop : kvs.drop i = (k, .str y u) :: kvs.drop (i + 1) := by
      rw [List.drop_eq_getElem_cons hlt]
      rw [List.getElem?_eq_getElem hlt] at hkv
      rw [Option.some.inj hkv]
    unfold Builtin.«proto.contains_iter»
    show wpAny _ A.in1 (pyNext (.ref it) >>= _) _ _ s
    refine wpAny_bind (wpAny_pyNext_values_item hi hm hkv fun h' hi' sb => ?_)
    refine wpAny_bind (wpAny_eqBool_str ?_)
    have keep : ∀ b o, b ≠ it → s.heap.get? b = some o → h'.get? b = some o := fun b o hb e => (sb.2 b hb).trans e
    by_cases e : y = x
    · simp only [e, decide_true, if_true]
      refine wpAny_bind (wpAny_rule ?_)
      refine wpAny_pure ?_
      have := hq h' keep
      rw [hdrop] at this
      simp only [vwHas, List.any_cons, e, decide_true, Bool.true_or] at this
      exact this
    · simp only [e, decide_false, Bool.false_eq_true, if_false]
      refine wpAny_pure ⟨plainId_quiet vw_plain _, ih (i + 1) { s with heap := h' } (by omega) hi' (hm.at' fun o e => keep d o hne e) fun h'' k2 => ?_⟩
      have := hq h'' (fun b o hb e => k2 b o hb (keep b o hb e))
      rw [hdrop] at this
      simp only [vwHas, List.any_cons, e, decide_false, Bool.false_or] at this
      exact this
theorem vw_contains {s : Shared} {Q : Bool → Shared → Prop} {p d : Addr} {ep : Nat} {kvs : List (K × Value)} {x : Str} {t : Tok} (hh : A.handled = none) (hv : s.heap.IsValuesView p d) (hm : s.heap.DictAt knd d kvs ep) (ht : ∀ kv ∈ kvs, ∃ y u, kv.2 = .str y u)
    (hq : ∀ h', (∀ b o, s.heap.get? b = some o → h'.get? b = some o) → Q (vwHas x kvs) { s with heap := h' }) : wpAny (model prog w) A (contains (.ref p) (.str x t)) Q E s := by
  have hT : s.TypeIs (.ref p) "dict_values" := hv.typeIs
  unfold contains
  refine wpAny_holding ?_
  rw [stdlibNamesSay?_of_typeIs hT]
  refine wpAny_bind (wpAny_specialOf hT vw_look ?_)
  show wpAny _ A (if (none == some Value.none) = true then _ else _) Q E s
  rw [if_neg (by simp)]
  simp only [callSpecialUnlessNone?]
  refine wpAny_bind (wpAny_bind (wpAny_specialOf hT vw_look (wpAny_pure ?_)))
  refine wpAny_bind (wpAny_rule ?_)
  refine wpAny_bind (wpAny_tryCatch ?_)
  refine wpAny_pyIter_values hv hm ?_
  have hlt := hm.lt_size
  have hne : d ≠ s.heap.objs.size := Nat.ne_of_lt hlt
  refine wpAny_bind (wpAny_runValue (codeAny_mono (vw_loop (E := E) (kvs := kvs) (x := x) (t := t) (Q := fun v s' => wpAny (model prog w) A (match v with
    | .bool b => pure b
    | _ => unsupported "internal:contains") Q E s') hh hne ht kvs.length 0 _ (by omega) ⟨_, Heap.get?_push_size _ rfl, rfl, rfl⟩ (hm.push _) fun h' k => ?_) fun r s' h => ?_))
  · rw [List.drop_zero]
    exact wpAny_pure (hq h' fun b o e => k b o (Nat.ne_of_lt (Heap.lt_size e)) (Heap.get?_push_of_some _ e))
  · exact h
end
end PySem

namespace L2
open PySem PySem.Spec PyProof.Rows
/-- a view of the values of the dict at d -/
def vwO (p d : Addr) : HO := .ext fun h => h.get? p = some { cls := .type "dict_values", data := .fields #[.ref d] }
theorem vwO_ok {P : Program} {w : World} {H : Hp} {h : Heap} {p d : Addr} (e : h.get? p = some { cls := .type "dict_values", data := .fields #[.ref d] }) : ObjOk P w H h p (vwO p d) := ⟨e, ⟨_, e⟩, fun h1 h2 q k => k _ q⟩
section
variable {X : Cx} {e : Expr} {td : TE} {apos cpos : Pos}
def tVals (td : TE) : TE := fun σ H Q => td σ H fun x H1 => ∃ d kvs, x = .ref d ∧ H1 d = some (.dK kvs) ∧ ∀ p, H1 p = none → Q (.ref p) (upd H1 p (vwO p d))
theorem pe_vals (he : PE X e td) (hbase : attributeBase e "values" X.env (eval e X.env) = eval e X.env := by rfl) (hline : (apos.endLine == cpos.line) = true := by rfl) : PE X (.Call (.Attribute e "values" apos) [] [] cpos) (tVals td) := by
  refine ⟨fun pins s σ H Q I h => ?_⟩
  refine wpAny_Call_method (T := "dict") (id := "dict.values") hbase rfl hline F.plainAttrs_dict F.slot_dict_values F.type_dict_values (thn (he.run pins s σ H _ I h) fun u s1 ⟨x, H1, I1, rx, d, kvs, ex, hd, q⟩ => ?_)
  subst ex
  obtain rfl : u = Value.ref d := rx
  obtain ⟨z, hs, vs, kv, hm⟩ := (show ObjOk X.prog X.w H1 s1.heap d (.dK kvs) from I1.hok d _ hd)
  refine ⟨hm.typeIs, hm.mapOf.noDict, ?_⟩
  show wpAny _ _ (callWith cpos (.builtin "dict.values") [.ref d] [] []) _ X.xe s1
  refine method_meetsIn F.slot_dict_values F.entry_dict_values rfl (PySem.evalArgs_none ⟨rfl, hm.typeIs, F.args_dict_values_1 _, _, meets_dict_values (mixKind X.prog X.w) d hs, ⟨vs, hm⟩, ?_⟩)
  exact ⟨.ref s1.heap.objs.size, _, I1.laid (t' := s1.toks) (fun b o q => Heap.get?_push_of_some _ q) (Nat.le_refl _) (vwO_ok (Heap.get?_push_size _ rfl)), rfl, q _ (I1.hok.fresh (Nat.le_refl _))⟩
def vHas (x : Str) (l : List (Key × V)) : Bool := l.any fun kv => decide (kv.2 = .str x)
abbrev rInV : R2 := fun x y H Q => ∃ z p d kvs, x = .str z ∧ y = .ref p ∧ H p = some (vwO p d) ∧ H d = some (.dK kvs) ∧ (∀ kv ∈ kvs, ∃ s, kv.2 = .str s) ∧ Q (.bl (vHas z kvs)) H
abbrev rNotInV : R2 := fun x y H Q => ∃ z p d kvs, x = .str z ∧ y = .ref p ∧ H p = some (vwO p d) ∧ H d = some (.dK kvs) ∧ (∀ kv ∈ kvs, ∃ s, kv.2 = .str s) ∧ Q (.bl (!vHas z kvs)) H
theorem vw_rel {x : Str} : ∀ {kvs : List (Key × V)} {vs : List (Key × Value)}, KV kvs vs → (∀ kv ∈ kvs, ∃ s, kv.2 = .str s) → (∀ kv ∈ vs, ∃ y u, kv.2 = .str y u) ∧ vwHas x vs = vHas x kvs := by
  intro kvs vs r
  unfold KV at r
  induction r with
  | nil => exact fun _ => ⟨(fun _ h => nomatch h), rfl⟩
  | @cons a b l l' h t ih =>
    intro hs
    obtain ⟨i1, i2⟩ := ih fun kv hk => hs kv (List.mem_cons_of_mem _ hk)
    obtain ⟨k, v⟩ := a
    obtain ⟨k', v'⟩ := b
    obtain ⟨y, hy⟩ := hs (k, v) List.mem_cons_self
    have hy : v = .str y := hy
    subst hy
    obtain ⟨u, hu⟩ : ∃ t, v' = .str y t := h.2
    subst hu
    refine ⟨fun kv hk => ?_, ?_⟩
    · rcases List.mem_cons.mp hk with rfl | hk
      · exact ⟨y, u, rfl⟩
      · exact i1 kv hk
    · unfold vwHas vHas at i2 ⊢
      simp only [List.any_cons, i2]
      congr 1
      by_cases z : y = x
      · simp [z]
      · simp [z]
theorem in_vals (hc : X.calm = true) {pins : List (Addr × Obj)} {s : Shared} {σ : St} {H : Hp} {z : Str} {t : Tok} {p d : Addr} {kvs : List (Key × V)} {Q : Bool → Shared → Prop} (I : Inv X pins σ H s) (hp : H p = some (vwO p d)) (hd : H d = some (.dK kvs)) (hs : ∀ kv ∈ kvs, ∃ s, kv.2 = .str s)
    (hq : ∀ s', Inv X pins σ H s' → Q (vHas z kvs) s') : wpAny (model X.prog X.w) X.A (contains (.ref p) (.str z t)) Q X.xe s := by
  have hv : s.heap.get? p = some { cls := .type "dict_values", data := .fields #[.ref d] } := (show ObjOk X.prog X.w H s.heap p (vwO p d) from I.hok p _ hp).1
  obtain ⟨zz, lo, vs, kv, hm⟩ := (show ObjOk X.prog X.w H s.heap d (.dK kvs) from I.hok d _ hd)
  obtain ⟨ep, hat⟩ := hm.dictAt
  obtain ⟨h1, h2⟩ := vw_rel (x := z) kv hs
  refine vw_contains (I.ok.hd hc) ⟨_, hv, rfl, rfl⟩ hat h1 fun h' k => ?_
  rw [h2]
  exact hq _ (I.kept (t' := s.toks) k)
theorem op_inV (hc : X.calm = true) : OpR X (compareOp .In) rInV := by
  intro pins s σ H x y v u Q I rx ry h
  obtain ⟨z, p, d, kvs, rfl, rfl, hp, hd, hs, q⟩ := h
  obtain ⟨t, rfl⟩ := rx
  obtain rfl : u = Value.ref p := ry
  show wpAny _ _ (contains (.ref p) (.str z t) >>= fun b => pure (Value.bool b)) _ _ s
  exact wpAny_bind (in_vals hc I hp hd hs fun s' I' => wpAny_pure ⟨.bl _, H, I', rfl, q⟩)
theorem op_notInV (hc : X.calm = true) : OpR X (compareOp .NotIn) rNotInV := by
  intro pins s σ H x y v u Q I rx ry h
  obtain ⟨z, p, d, kvs, rfl, rfl, hp, hd, hs, q⟩ := h
  obtain ⟨t, rfl⟩ := rx
  obtain rfl : u = Value.ref p := ry
  show wpAny _ _ (contains (.ref p) (.str z t) >>= fun b => pure (Value.bool (!b))) _ _ s
  exact wpAny_bind (in_vals hc I hp hd hs fun s' I' => wpAny_pure ⟨.bl _, H, I', rfl, q⟩)
end
end L2
namespace Sh
open PySem L2 He
section
variable {X : Cx} {W : We} {a e : Expr} {fa f : EF} {pos apos cpos : Pos}
def allStr : List (Key × D) → Bool
  | [] => true
  | (_, .str _) :: l => allStr l
  | _ => false
def hasVal (x : Str) (l : List (Key × D)) : Bool := l.any fun kv => match kv.2 with
  | .str y => decide (y = x)
  | _ => false
def dInV (neg : Bool) : D → D → Sto → Res D := fun x y st => match x, y with
  | .str z, .loc n => match st[n]? with
    | some (.dict l) => if allStr l = true then .ok (.bl (if neg then !hasVal z l else hasVal z l)) st else .bad
    | _ => .bad
  | _, _ => .bad
@[simp] def fInV (neg : Bool) (fa f : EF) : EF := fun sg st => (fa sg st).bind fun x st1 => (f sg st1).bind fun y st2 => dInV neg x y st2
theorem krel_vals {K : PySem.W.Frag} {mg : Str → Option Value} {r : List Addr} {G : Hp} {x : Str} {l : List (Key × D)} {kvs : List (Key × V)} (h : KRel K mg r G l kvs) : allStr l = true → (∀ kv ∈ kvs, ∃ s, kv.2 = .str s) ∧ vHas x kvs = hasVal x l := by
  induction h with
  | nil => exact fun _ => ⟨(fun _ h => nomatch h), rfl⟩
  | @cons k d v l vs h t ih =>
    intro hs
    cases d with
    | str y =>
      cases h
      obtain ⟨i1, i2⟩ := ih hs
      refine ⟨fun kv hk => ?_, ?_⟩
      · rcases List.mem_cons.mp hk with rfl | hk
        · exact ⟨y, rfl⟩
        · exact i1 kv hk
      · unfold vHas hasVal at i2 ⊢
        simp only [List.any_cons, i2]
        congr 1
        by_cases z : y = x
        · simp [z]
        · simp [z]
    | _ => exact absurd hs (by simp [allStr])
theorem inV_of {neg : Bool} {σ : St} {H : Hp} {Q : VK} {r : R2} (hr : ∀ z p d kvs (H1 : Hp) (Q : VK), H1 p = some (vwO p d) → H1 d = some (.dK kvs) → (∀ kv ∈ kvs, ∃ s, kv.2 = .str s) → Q (.bl (if neg then !vHas z kvs else vHas z kvs)) H1 → r (.str z) (.ref p) H1 Q)
    (h : TOf X.K X.mg W (RD X.K X.mg) (fInV neg fa f) σ H Q) : tOp r (TOf X.K X.mg W (RD X.K X.mg) fa) (tVals (TOf X.K X.mg W (RD X.K X.mg) f)) σ H Q := by
  obtain ⟨m, sg, st, rfl, rm, rs, hp⟩ := h
  refine ⟨m, sg, st, rfl, rm, rs, hp.bindc fun m1 x v st1 e1 r1 q1 hp1 => ⟨m1, sg, st1, rfl, r1, rs.mono e1, hp1.bindc fun m2 y w st2 e2 r2 q2 hp2 => ?_⟩⟩
  unfold dInV at hp2
  split at hp2
  · rename_i z n
    split at hp2
    · rename_i l hl
      split at hp2
      · rename_i hs
        obtain ⟨a, kvs, rfl, k1, k2⟩ := dict_at r2 q2 hl
        cases q1.mono e2
        obtain ⟨v1, v2⟩ := krel_vals (x := z) k2 hs
        refine ⟨a, kvs, rfl, k1, fun p hn => hr z p a kvs _ _ upd_same ?_ v1 ?_⟩
        · rw [upd_ne (ne_of_none k1 hn)]; exact k1
        · rw [v2]
          exact hp2 (m2.lay p (vwO p a)) _ (Ext.lay r2 hn) (r2.lay hn) (.bl _)
      · exact False.elim hp2
    · exact False.elim hp2
  · exact False.elim hp2
theorem se_inV (hc : X.calm = true) (ha : SE X W a fa) (he : SE X W e f) (hm : behindInMarks .In (.Call (.Attribute e "values" apos) [] [] cpos) = false := by rfl) (hbase : attributeBase e "values" X.env (eval e X.env) = eval e X.env := by rfl) (hline : (apos.endLine == cpos.line) = true := by rfl) :
    SE X W (.Compare a [.In] [.Call (.Attribute e "values" apos) [] [] cpos] pos) (fInV false fa f) :=
  pe_weak (pe_cmpR (op_inV hc) ha (pe_vals he hbase hline) hm) fun _ _ _ h => inV_of (neg := false) (fun z p d kvs H1 Q h1 h2 h3 q => ⟨z, p, d, kvs, rfl, rfl, h1, h2, h3, q⟩) h
theorem se_notInV (hc : X.calm = true) (ha : SE X W a fa) (he : SE X W e f) (hm : behindInMarks .NotIn (.Call (.Attribute e "values" apos) [] [] cpos) = false := by rfl) (hbase : attributeBase e "values" X.env (eval e X.env) = eval e X.env := by rfl) (hline : (apos.endLine == cpos.line) = true := by rfl) :
    SE X W (.Compare a [.NotIn] [.Call (.Attribute e "values" apos) [] [] cpos] pos) (fInV true fa f) :=
  pe_weak (pe_cmpR (op_notInV hc) ha (pe_vals he hbase hline) hm) fun _ _ _ h => inV_of (neg := true) (fun z p d kvs H1 Q h1 h2 h3 q => ⟨z, p, d, kvs, rfl, rfl, h1, h2, h3, q⟩) h
/-- as a test -/
theorem sb_ofE {t : TE} (h : PT X e (tTest t)) (i : ∀ σ H Q, TOf X.K X.mg W (RD X.K X.mg) f σ H Q → t σ H Q) : SB X W e (tOfE f) :=
  pt_weak h fun σ H Q ⟨m, sg, st, e, rm, rs, hp⟩ => i σ H _ ⟨m, sg, st, e, rm, rs, hp.bindc fun m1 x v st1 e1 r1 q1 hp1 => by
    split at hp1
    · cases q1; exact ⟨_, rfl, hp1.okc r1 rfl⟩
    · exact False.elim hp1⟩
theorem sb_inV (hc : X.calm = true) (ha : SE X W a fa) (he : SE X W e f) (hm : behindInMarks .In (.Call (.Attribute e "values" apos) [] [] cpos) = false := by rfl) (hbase : attributeBase e "values" X.env (eval e X.env) = eval e X.env := by rfl) (hline : (apos.endLine == cpos.line) = true := by rfl) :
    SB X W (.Compare a [.In] [.Call (.Attribute e "values" apos) [] [] cpos] pos) (tOfE (fInV false fa f)) :=
  sb_ofE (pt_cmpR (op_inV hc) ha (pe_vals he hbase hline) hm) fun _ _ _ h => inV_of (neg := false) (fun z p d kvs H1 Q h1 h2 h3 q => ⟨z, p, d, kvs, rfl, rfl, h1, h2, h3, q⟩) h
theorem sb_notInV (hc : X.calm = true) (ha : SE X W a fa) (he : SE X W e f) (hm : behindInMarks .NotIn (.Call (.Attribute e "values" apos) [] [] cpos) = false := by rfl) (hbase : attributeBase e "values" X.env (eval e X.env) = eval e X.env := by rfl) (hline : (apos.endLine == cpos.line) = true := by rfl) :
    SB X W (.Compare a [.NotIn] [.Call (.Attribute e "values" apos) [] [] cpos] pos) (tOfE (fInV true fa f)) :=
  sb_ofE (pt_cmpR (op_notInV hc) ha (pe_vals he hbase hline) hm) fun _ _ _ h => inV_of (neg := true) (fun z p d kvs H1 Q h1 h2 h3 q => ⟨z, p, d, kvs, rfl, rfl, h1, h2, h3, q⟩) h
end
end Sh
/-! Part ZN: is True, is False of any data; list of a dict -/
namespace Sh
open PySem L2 He
section
variable {X : Cx} {W : We}
abbrev rIsBo : R2 := fun x y H Q => ∃ b, y = .bl b ∧ Q (.bl (decide (x = .bl b))) H
abbrev rNotBo : R2 := fun x y H Q => ∃ b, y = .bl b ∧ Q (.bl (!decide (x = .bl b))) H
theorem op_isBo : OpR X (compareOp .Is) rIsBo := by
  intro pins s σ H x y v u Q I rx ry h
  obtain ⟨b, rfl, q⟩ := h
  cases (show u = Value.bool b from ry)
  cases x with
  | bl a =>
    cases (show v = Value.bool a from rx)
    by_cases e : a = b
    · subst e
      exact wpAny_is_self rfl ⟨.bl true, H, I, rfl, by simpa using q⟩
    · exact wpAny_is_other rfl (fun z => e (Value.bool.inj z)) ⟨.bl false, H, I, rfl, by simpa [e] using q⟩
  | non => cases (show v = Value.none from rx); exact wpAny_pure ⟨.bl false, H, I, rfl, q⟩
  | int i => obtain ⟨t, rfl⟩ := rx; exact wpAny_pure ⟨.bl false, H, I, rfl, q⟩
  | str i => obtain ⟨t, rfl⟩ := rx; exact wpAny_pure ⟨.bl false, H, I, rfl, q⟩
  | byt i => obtain ⟨t, rfl⟩ := rx; exact wpAny_pure ⟨.bl false, H, I, rfl, q⟩
  | flt i => obtain ⟨t, rfl⟩ := rx; exact wpAny_pure ⟨.bl false, H, I, rfl, q⟩
  | ref a => cases (show v = Value.ref a from rx); exact wpAny_pure ⟨.bl false, H, I, rfl, q⟩
  | ty n => cases (show v = Value.type n from rx); exact wpAny_pure ⟨.bl false, H, I, rfl, q⟩
theorem op_notBo : OpR X (compareOp .IsNot) rNotBo := by
  intro pins s σ H x y v u Q I rx ry h
  obtain ⟨b, rfl, q⟩ := h
  cases (show u = Value.bool b from ry)
  cases x with
  | bl a =>
    cases (show v = Value.bool a from rx)
    by_cases e : a = b
    · subst e
      exact wpAny_isNot_self rfl ⟨.bl false, H, I, rfl, by simpa using q⟩
    · exact wpAny_isNot_other rfl (fun z => e (Value.bool.inj z)) ⟨.bl true, H, I, rfl, by simpa [e] using q⟩
  | non => cases (show v = Value.none from rx); exact wpAny_pure ⟨.bl true, H, I, rfl, q⟩
  | int i => obtain ⟨t, rfl⟩ := rx; exact wpAny_pure ⟨.bl true, H, I, rfl, q⟩
  | str i => obtain ⟨t, rfl⟩ := rx; exact wpAny_pure ⟨.bl true, H, I, rfl, q⟩
  | byt i => obtain ⟨t, rfl⟩ := rx; exact wpAny_pure ⟨.bl true, H, I, rfl, q⟩
  | flt i => obtain ⟨t, rfl⟩ := rx; exact wpAny_pure ⟨.bl true, H, I, rfl, q⟩
  | ref a => cases (show v = Value.ref a from rx); exact wpAny_pure ⟨.bl true, H, I, rfl, q⟩
  | ty n => cases (show v = Value.type n from rx); exact wpAny_pure ⟨.bl true, H, I, rfl, q⟩
def isBD : D → Bool → Bool
  | .bl a, b => decide (a = b)
  | _, _ => false
def dIsB : D → D → Sto → Res D
  | x, .bl b, st => .ok (.bl (isBD x b)) st
  | _, _, _ => .bad
def dIsNB : D → D → Sto → Res D
  | x, .bl b, st => .ok (.bl !(isBD x b)) st
  | _, _, _ => .bad
theorem isBD_of {m : Hw} {x : D} {v : V} {b : Bool} (h : Rep X.K X.mg m.r m.g x v) : isBD x b = decide (v = .bl b) := by
  cases h <;> simp [isBD]
theorem fits_isB : Fits2 X W rIsBo dIsB := by
  intro m st σ x y v w Q rm ra rb hp
  unfold dIsB at hp
  split at hp
  · rename_i b
    cases rb
    refine ⟨b, rfl, ?_⟩
    rw [← isBD_of ra]
    exact hp.okc rm (.bl _)
  · exact False.elim hp
theorem fits_notB : Fits2 X W rNotBo dIsNB := by
  intro m st σ x y v w Q rm ra rb hp
  unfold dIsNB at hp
  split at hp
  · rename_i b
    cases rb
    refine ⟨b, rfl, ?_⟩
    rw [← isBD_of ra]
    exact hp.okc rm (.bl _)
  · exact False.elim hp
@[simp] theorem ev_dIsB (x : D) (b : Bool) (st : Sto) : dIsB x (.bl b) st = .ok (.bl (isBD x b)) st := rfl
@[simp] theorem ev_dIsNB (x : D) (b : Bool) (st : Sto) : dIsNB x (.bl b) st = .ok (.bl !(isBD x b)) st := rfl
@[simp] theorem isBD_bl (a b : Bool) : isBD (.bl a) b = decide (a = b) := rfl
@[simp] theorem isBD_non (b : Bool) : isBD .non b = false := rfl
@[simp] theorem isBD_int (i : Int) (b : Bool) : isBD (.int i) b = false := rfl
@[simp] theorem isBD_str (i : Str) (b : Bool) : isBD (.str i) b = false := rfl
@[simp] theorem isBD_ins (c : Nat) (l : List D) (b : Bool) : isBD (.ins c l) b = false := rfl
end
end Sh
/-! Part ZO: sets of ints that are sorted or counted at once; sets of unlike texts that are counted -/
namespace L2
open PySem PySem.Spec PyProof.Rows
/-- a set without members, just made -/
def emO (w : World) : Obj := { cls := .type "set", dict := none, data := .set #[] 0 (.fresh 0 0 (!w.params.followText "set-order")) }
section
variable {P : Program} {w : World} {A : Around} {E : Value → Shared → Prop} {s : Shared}
/-- what comes of set(..) -/
def StR (w : World) (s : Shared) (ns : List Int) : Shared → Prop := fun s₂ => ∃ h' tk c, s₂ = { s with heap := h', toks := tk } ∧ SetR w h' s.heap.objs.size (fun j => decide (j ∈ ns)) c ∧ c ≤ ns.length ∧ ∀ b o, s.heap.get? b = some o → h'.get? b = some o
theorem zl_init {l : Addr} {items : Array Value} (ns : List Int) (hh : A.handled = none) (hl : s.heap.IsList l items) (hit : IntsAre items.toList ns) (hb : ns.length + 1 < scanBound) :
    wpAny (model P w) A.in1 (Builtin.«set.__init__» ⟨[.ref s.heap.objs.size, .ref l], []⟩) (fun fin s' => match fin with | .done f => wants (fun r s₂ => r = .none ∧ StR w s ns s₂) E (.ok f) s' | .again c' => c'.quiet = true ∧ codeAny (model P w) A c' (wants (fun r s₂ => r = .none ∧ StR w s ns s₂) E) s') (fun e s' => wants (fun r s₂ => r = .none ∧ StR w s ns s₂) E (.error e) s')
      { s with heap := s.heap.push (emO w) } := by
  have hisz : items.size = ns.length := by
    have q := IntsAre.length hit
    rwa [Array.length_toList] at q
  have hS : (s.heap.push (emO w)).get? s.heap.objs.size = some (emO w) := Heap.get?_push_size _ rfl
  have hT : Shared.TypeIs { s with heap := s.heap.push (emO w) } (.ref s.heap.objs.size) "set" := ⟨_, hS, rfl⟩
  obtain ⟨ol, hol, hcl, nl, hdl⟩ := hl
  obtain ⟨ocls, odict, odata, oslots⟩ := ol
  simp only at hcl hdl
  subst hcl; subst hdl
  have hol' : (s.heap.push (emO w)).get? l = some { cls := .type "list", dict := odict, data := .seq items nl, slots := oslots } := Heap.get?_push_of_some _ hol
  have hsls := F.sub_list_set
  have hslf := F.sub_list_frozenset
  have hne : (Value.type "list" == Value.type "dict") = false := by decide
  have hl1 : (s.heap.push (emO w)).IsList l items := ⟨_, hol', rfl, nl, rfl⟩
  have hS' : (s.heap.push (emO w)).get? s.heap.objs.size = some { cls := .type "set", dict := none, data := .set #[] 0 (.fresh 0 0 (!w.params.followText "set-order")) } := hS
  unfold Builtin.«set.__init__» noKeywords Builtin.Frozenset.updateFrom
  generalize hPI : pyIter = PI
  wp_walk
  subst hPI
  refine wpAny_pyIter_list hl1 ?_
  refine wpAny_bind (wpAny_runValue ?_)
  have hlS : l < s.heap.objs.size := Heap.lt_size hol
  have hh3 : A.in1.in1.handled = none := by simp [hh]
  have hneI : l ≠ (s.heap.push (emO w)).objs.size := by
    rw [Heap.size_push]; exact Nat.ne_of_lt (Nat.lt_succ_of_lt hlS)
  have hSf : s.heap.objs.size ∉ [(s.heap.push (emO w)).objs.size, l] := by
    rw [Heap.size_push]
    simp only [List.mem_cons, List.not_mem_nil, or_false, not_or]
    exact ⟨Nat.ne_of_lt (Nat.lt_succ_self _), Nat.ne_of_gt hlS⟩
  have hval : ∀ (i : Nat) (v : Value), items[i]? = some v → ∃ k t, ns[i]? = some k ∧ v = .int k t := fun i v hv => by
    have hi : i < ns.length := by rw [← hisz]; exact (Array.getElem?_eq_some_iff.mp hv).1
    obtain ⟨t, e⟩ := PyProof.Rows.IntsAre.int_at hit i v (by rw [Array.getElem?_toList]; exact hv)
    exact ⟨ns[i], t, List.getElem?_eq_getElem hi, by rw [e, List.getD_eq_getElem?_getD, List.getElem?_eq_getElem hi] <;> rfl⟩
  refine set_update_ints ((Walks.list hh3 _ l hneI items).toS) s.heap.objs.size hSf ns hisz hb hval items.size 0 _ (by omega) (Nat.zero_le _) ⟨⟨_, Heap.get?_push_size _ rfl, rfl, rfl⟩, hl1.push _⟩ ⟨0, Nat.le_refl 0, setR_new_at (Heap.get?_push_of_some _ hS)⟩ fun s' c' hm hc' hS2 => ?_
  obtain ⟨h', g2, d', tk', os'⟩ := s'
  have eg : g2 = s.gens := hm.gens
  have ed : d' = s.drawn := hm.drawn
  have eo : os' = s.os := hm.os
  subst eg; subst ed; subst eo
  show wpAny _ _ _ _ _ _
  refine wpAny_pure ?_
  show wpAny _ _ (ret Value.none) _ _ _
  rw [hisz] at hc'
  refine wpAny_pure ⟨rfl, h', tk', c', rfl, hS2, hc', fun b o e => ?_⟩
  have hb0 : b < s.heap.objs.size := Heap.lt_size e
  refine hm.heap b o ?_ (Heap.get?_push_of_some _ (Heap.get?_push_of_some _ e))
  simp only [List.mem_cons, List.not_mem_nil, or_false, not_or]
  exact ⟨Nat.ne_of_lt hb0, by rw [Heap.size_push]; exact Nat.ne_of_lt (Nat.lt_succ_of_lt hb0)⟩
end
end L2
namespace L2
open PySem PySem.Spec PyProof.Rows
section
variable {P : Program} {w : World} {A : Around} {E : Value → Shared → Prop} {s : Shared}
theorem zl_call {l : Addr} {items : Array Value} (ns : List Int) {Q : Value → Shared → Prop} (hh : A.handled = none) (hl : s.heap.IsList l items) (hit : IntsAre items.toList ns) (hb : ns.length + 1 < scanBound)
    (h : ∀ (h' : Heap) (tk c : Nat), SetR w h' s.heap.objs.size (fun j => decide (j ∈ ns)) c → c ≤ ns.length → (∀ b o, s.heap.get? b = some o → h'.get? b = some o) → Q (.ref s.heap.objs.size) { s with heap := h', toks := tk }) :
    wpAny (model P w) A (call (.type "set") [.ref l]) Q E s := by
  obtain ⟨c, tl, hmro⟩ := F.called_set.mro
  have hmade := F.called_set.made; have hsub := F.called_set.sub
  have h1 := F.called_set.notType; have h2 := F.called_set.canCreate
  have hct := F.typeCall_set_1 (.ref l)
  refine wpAny_call (codeAny_of_tree ?_)
  show wpAny _ _ (callAny (.type "set") ⟨[.ref l], []⟩) _ _ s
  refine wpAny_pure ⟨Code.quiet_builtin _ (by decide +kernel), codeAny_builtin F.entry_type_call ?_⟩
  rw [Around.under_plain (weight_type_call_type "set" [.ref l] []) rfl]
  repeat (any_goals (first | assumption | wp_step))
  refine codeAny_mono (code_set_led1 (.ref l) (E := E) (Q₁ := fun obj s₁ => obj = .ref s.heap.objs.size ∧ s₁ = { s with heap := s.heap.push (emO w) }) ⟨rfl, rfl⟩) fun r s₁ hr => ?_
  cases r with
  | error e => exact hr
  | ok fl =>
    cases fl with
    | ret obj =>
      obtain ⟨rfl, rfl⟩ := hr
      have hT : Shared.TypeIs { s with heap := s.heap.push (emO w) } (.ref s.heap.objs.size) "set" := ⟨_, Heap.get?_push_size _ rfl, rfl⟩
      have hli := F.called_set.init.lookup; have hbi := F.called_set.init.bind (.ref s.heap.objs.size)
      repeat (any_goals (first | assumption | wp_step))
      refine codeAny_mono (codeAny_call_builtin (R := wants (fun r s₂ => r = .none ∧ StR w s ns s₂) E) F.called_set.init.plain F.entry_set_init (check_set_init_1 hT (zl_init ns (by simpa using hh) hl hit hb))) fun r₂ s₂ hr₂ => ?_
      cases r₂ with
      | error e => exact hr₂
      | ok fl₂ =>
        cases fl₂ with
        | ret r =>
          obtain ⟨rfl, h', tk, c', rfl, q1, q2, q3⟩ := hr₂
          repeat (any_goals (first | assumption | wp_step))
          exact h _ _ _ q1 q2 q3
        | _ => exact hr₂.elim
    | _ => exact hr.elim
end
end L2

namespace L2
open PySem PySem.Spec PyProof.Rows
def dedI : List Int → List Int
  | [] => []
  | x :: l => if x ∈ l then dedI l else x :: dedI l
theorem mem_dedI {x : Int} : ∀ {l : List Int}, x ∈ dedI l ↔ x ∈ l
  | [] => Iff.rfl
  | y :: l => by
    unfold dedI
    split
    · rename_i h
      rw [mem_dedI, List.mem_cons]
      exact ⟨.inr, fun z => z.elim (fun e => e ▸ h) id⟩
    · rw [List.mem_cons, List.mem_cons, mem_dedI]
theorem nodup_dedI : ∀ l : List Int, (dedI l).Nodup
  | [] => List.nodup_nil
  | y :: l => by
    unfold dedI
    split
    · exact nodup_dedI l
    · rename_i h
      exact List.nodup_cons.mpr ⟨fun z => h (mem_dedI.mp z), nodup_dedI l⟩
theorem dedI_len (l : List Int) : (dedI l).length ≤ l.length := by
  induction l with
  | nil => exact Nat.le_refl _
  | cons y l ih =>
    unfold dedI
    split
    · exact Nat.le_succ_of_le ih
    · exact Nat.succ_le_succ ih
theorem dedI_self : ∀ {l : List Int}, l.Nodup → dedI l = l
  | [], _ => rfl
  | y :: l, h => by
    obtain ⟨h1, h2⟩ := List.nodup_cons.mp h
    unfold dedI
    rw [if_neg h1, dedI_self h2]
theorem setR_count {w : World} {h : Heap} {a : Addr} {ns : List Int} {n : Nat} (R : SetR w h a (fun j => decide (j ∈ ns)) n) : n = (dedI ns).length := by
  obtain ⟨o, es, ep, t, ho, hex, hd, g, nd, hm, hb, hf, hn, hr, hl⟩ := R
  have p : (es.toList.map keyOf).Perm (dedI ns) := (List.perm_ext_iff_of_nodup nd (nodup_dedI ns)).mpr fun k => by
    rw [← hm k, mem_dedI, decide_eq_true_eq]
  have := p.length_eq
  rw [List.length_map, Array.length_toList] at this
  omega
noncomputable def srtI (l : List Int) : List Int := l.mergeSort fun a b => decide (a ≤ b)
theorem srtI_perm (l : List Int) : (srtI l).Perm l := List.mergeSort_perm _ _
theorem srtI_le (l : List Int) : (srtI l).Pairwise (· ≤ ·) := by
  have := List.pairwise_mergeSort (le := fun a b : Int => decide (a ≤ b)) (fun a b c h1 h2 => by simp at *; omega) (fun a b => by simp; omega) l
  exact this.imp fun h => by simpa using h
theorem asc_uniq {l m : List Int} (hl : l.Pairwise (· < ·)) (hm : m.Pairwise (· < ·)) (h : ∀ k, k ∈ l ↔ k ∈ m) : l = m := by
  have n1 : l.Nodup := hl.imp fun h => by omega
  have n2 : m.Nodup := hm.imp fun h => by omega
  have p := (List.perm_ext_iff_of_nodup n1 n2).mpr h
  exact List.Perm.eq_of_pairwise (le := fun a b : Int => a ≤ b) (fun a b _ _ h1 h2 => by omega) (hl.imp fun h => by omega) (hm.imp fun h => by omega) p
theorem srtI_asc {l : List Int} (h : l.Nodup) : (srtI l).Pairwise (· < ·) := lt_of_le_nodup _ (srtI_le l) ((srtI_perm l).nodup_iff.mpr h)
theorem srtI_self {l : List Int} (h : l.Pairwise (· < ·)) : srtI (dedI l) = l := by
  have n1 : l.Nodup := h.imp fun h => by omega
  rw [dedI_self n1]
  exact asc_uniq (srtI_asc n1) h fun k => (srtI_perm l).mem_iff
section
variable {X : Cx}
/-- set(xs) of a list or a tuple of ints -/
theorem cr_setI (hc : X.calm = true) : CallR X (.type "set") (fun vs H Q => ∃ l ns, vs = [V.ref l] ∧ (SqL X.K H l (ns.map V.int) ∨ SqT X.K H l (ns.map V.int)) ∧ ns.length + 1 < 4096 ∧ ∀ p, H p = none → Q (.ref p) (upd H p (SetO X.w p (fun j => decide (j ∈ ns)) (dedI ns).length))) := by
  intro pins s σ H vs us Q I r h
  obtain ⟨l, ns, rfl, hs, hn, q⟩ := h
  rw [Vals.ref1 r]
  have fin : ∀ (h' : Heap) (tk c : Nat), SetR X.w h' s.heap.objs.size (fun j => decide (j ∈ ns)) c → c ≤ ns.length → (∀ b o, s.heap.get? b = some o → h'.get? b = some o) → EP X pins σ Q (.ref s.heap.objs.size) { s with heap := h', toks := tk } := fun h' tk c R hc k => by
    have e := setR_count R
    subst e
    exact ⟨.ref s.heap.objs.size, _, I.laid (t' := tk) k (Nat.le_refl _) (setO_new R), rfl, q _ (I.hok.fresh (Nat.le_refl _))⟩
  rcases hs with hs | hs
  · obtain ⟨its, rv, pl, hz⟩ := I.list hs
    exact zl_call ns (I.ok.hd hc) pl.isList (ints_of_vals (by simpa using rv)) hn fin
  · obtain ⟨its, rv, pt, hz⟩ := I.tuple hs
    exact call_set_tupI ns (I.ok.hd hc) (show s.heap.IsTuple l its.toArray from pt) (ints_of_vals (by simpa using rv)) hn fin
/-- len of a set of ints -/
theorem cr_lenSet : CallR X (.builtin "len") (fun vs H Q => ∃ a S n, vs = [V.ref a] ∧ H a = some (SetO X.w a S n) ∧ Q (.int n) H) := by
  intro pins s σ H vs us Q I r h
  obtain ⟨a, S, n, rfl, ha, q⟩ := h
  rw [Vals.ref1 r]
  obtain ⟨o, es, ep, t, ho, hex, hd, g, nd, hm, hb, hf, hn, hr, hl⟩ := setO_get I ha
  refine call_len_set ho hex hd hf (by unfold scanBound at hb; omega) ?_
  rw [hn]
  exact ⟨.int n, H, I.tok _, ⟨_, rfl⟩, q⟩
open PySem.W PySem.Calls in
/-- sorted of a set of ints -/
theorem cr_sortSet (hc : X.calm = true) (hu : X.A.units + 64 < cLine) : CallR X (.builtin "sorted") (fun vs H Q => ∃ a S n, vs = [V.ref a] ∧ H a = some (SetO X.w a S n) ∧ ∀ (ns : List Int) p, ns.Pairwise (· < ·) → (∀ k, k ∈ ns ↔ S k = true) → H p = none → Q (.ref p) (upd H p (.lst (ns.map V.int)))) := by
  intro pins s σ H vs us Q I r h
  obtain ⟨a, S, n, rfl, ha, q⟩ := h
  rw [Vals.ref1 r]
  obtain ⟨o, es, ep, t, ho, hex, hd, g, nd, hm, hb, hf, hn, hr, hl⟩ := setO_get I ha
  refine Sh.sorted_col (β := Int) (enc := fun i => .int i) (P := fun us s1 => us.Perm (es.toList.map (·.2)) ∧ (∀ b o, s.heap.get? b = some o → s1.heap.get? b = some o) ∧ s.heap.objs.size ≤ s1.heap.objs.size ∧ s1.gens = s.gens ∧ s1.os = s.os) (PyProof.Rows.args_sorted1 _) (fun E' Q' hq => ?_) fun us s1 hP => ?_
  · exact collect_set (A := X.A.in1) (I.ok.hd hc) ⟨o, ho, hex.1, hd⟩ hf hb hr hl fun s1 vs k1 hz g1 o1 pm => hq _ _ ⟨pm, k1, hz, g1, o1⟩
  · obtain ⟨pm, k1, hz, g1, o1⟩ := hP
    have hv : ∀ v ∈ us, ∃ k tk, v = Value.int k tk := fun v hv => by
      obtain ⟨e, he, e2⟩ := List.mem_map.mp (pm.mem_iff.mp hv)
      obtain ⟨k, tk, h1, _⟩ := g e he
      exact ⟨k, tk, e2.symm.trans h1⟩
    have hI := ints_of us hv
    have pk : (us.map Builtin.Re.reRawOf).Perm (es.toList.map keyOf) := by
      have q := pm.map Builtin.Re.reRawOf
      rw [List.map_map] at q
      exact q
    generalize us.map Builtin.Re.reRawOf = bs at hI pk
    have each : ∀ {us : List Value} {bs : List Int}, IntsAre us bs → EachIs (fun (v : Value) (b : Int) => ∃ t, v = .int b t) us bs := by
      intro us bs h
      induction h with
      | nil => exact .nil
      | cons n t _ ih => exact .cons ⟨t, rfl⟩ ih
    have back : ∀ {us : List Value} {bs : List Int}, EachIs (fun (v : Value) (b : Int) => ∃ t, v = .int b t) us bs → Vals (bs.map V.int) us := by
      intro us bs h
      induction h with
      | nil => exact .nil
      | cons h _ ih => exact .cons h ih
    have rd : EachIs (fun v b => ∃ as, PySem.Reads s1.heap v (PyData.int b) as) us bs := (each hI).mono fun v b h => by
      obtain ⟨t, rfl⟩ := h
      exact ⟨[], .int _ _⟩
    have hlen : bs.length = es.size := by have := pk.length_eq; simpa using this
    have hb' : es.size < 4096 := hb
    refine ⟨fun v b => ∃ t, v = .int b t, bs, each hI, rd, AllAlike.of fun _ _ => rfl, Sortable.others fun _ => ⟨by simp, fun _ => by simp⟩, by rw [sizeLine_eq]; omega, fun b _ => ?_, fun h' out ep2 k2 hat hE => ?_⟩
    · show X.A.units + 2 + 0 < cLine
      omega
    · have hle : bs.mergeSort (dataLe false fun i : Int => PyData.int i) = srtI bs := by
        rw [dataLe_int (fun i : Int => i)]; rfl
      rw [hle] at hE
      have nb : bs.Nodup := pk.nodup_iff.mpr nd
      have hn : H s1.heap.objs.size = none := I.hok.fresh hz
      have J : Inv X pins σ (upd H s1.heap.objs.size (.lst ((srtI bs).map V.int))) { s with heap := h', gens := s1.gens, drawn := s1.drawn, toks := s1.toks } := by
        have k : ∀ b u, s.heap.get? b = some u → h'.get? b = some u := fun b u e => k2 b u (k1 b u e)
        have lz : ((srtI bs).map V.int).length ≤ sizeLine := by
          rw [List.length_map, (srtI_perm bs).length_eq, sizeLine_eq]; omega
        exact I.call (ch := []) (Un.laid k hz hn) (I.hok.laid k hz ⟨lz, out, ep2, back hE, hat⟩) (by rw [g1]; exact I.bare) (fun _ z => nomatch z)
      have e : ({ s1 with heap := h' } : Shared) = { s with heap := h', gens := s1.gens, drawn := s1.drawn, toks := s1.toks } := by
        cases s1
        cases s
        cases o1
        rfl
      rw [e]
      exact ⟨.ref s1.heap.objs.size, _, J, rfl, q _ _ (srtI_asc nb) (fun k => by rw [(srtI_perm bs).mem_iff, pk.mem_iff, ← hm k]) hn⟩
end
end L2
/-! Part ZP: the same by values: sorted(set(..)), len(set(..)) -/
namespace L2
open PySem PySem.Spec PyProof.Rows
section
variable {P : Program} {w : World} {A : Around} {E : Value → Shared → Prop} {s : Shared}
theorem setOf_cg {K : Type} [DecidableEq K] {knd : KeyKind P w K} {h : Heap} {a : Addr} {S S' : K → Bool} {n n' : Nat} (hS : h.SetOf knd a S n) (e : ∀ k, S k = S' k) (en : n = n') : h.SetOf knd a S' n' := by
  have : S = S' := funext e
  subst this; subst en; exact hS
theorem setOf_at {K : Type} [DecidableEq K] {knd : KeyKind P w K} {h h' : Heap} {a : Addr} {S : K → Bool} {n : Nat} (hS : h.SetOf knd a S n) (k : ∀ o, h.get? a = some o → h'.get? a = some o) : h'.SetOf knd a S n :=
  let ⟨o, es, ep, t, ho, r⟩ := hS; ⟨o, es, ep, t, k _ ho, r⟩
theorem strAt : ∀ {vs : List Value} {ns : List Str}, StrsAre vs ns → ∀ (i : Nat) (v : Value), vs[i]? = some v → ∃ k t, ns[i]? = some k ∧ v = .str k t
  | _, _, .nil, i, v, h => by simp at h
  | _, _, .cons n t hr, 0, v, h => by simp at h; exact ⟨n, t, rfl, h.symm⟩
  | _, _, .cons n t hr, i + 1, v, h => by
    obtain ⟨k, t', e1, e2⟩ := strAt hr i v (by simpa using h)
    exact ⟨k, t', by simpa using e1, e2⟩
theorem zs_loop {I : Addr} {fp wr : List Addr} {G : Array GenState → Array GenState → Prop} {n : Nat} {Pv : Nat → Value → Prop} {St : Nat → Shared → Prop} {R : Result → Shared → Prop}
    (W : WalksS P w A.in1 I fp wr G n Pv St) (S : Addr) (hSf : S ∉ fp) (xs : List Str) (hn : n = xs.length) (nd : xs.Nodup) (hb : xs.length + 1 < scanBound) (hval : ∀ i v, Pv i v → ∃ k t, xs[i]? = some k ∧ v = .str k t) :
    ∀ (k i : Nat) (s : Shared), n - i = k → i ≤ n → St i s → s.heap.SetOf (PySem.strKind P w) S (fun j => decide (j ∈ xs.take i)) i →
      (∀ s', Moved (S :: wr) G s s' → s'.heap.SetOf (PySem.strKind P w) S (fun j => decide (j ∈ xs)) n → R (.ok (.ret .none)) s') →
      codeAny (model P w) A (.builtin "set.update.loop" ⟨[.ref S, .ref I], []⟩) R s := by
  have hSw : S ∉ wr := fun h => hSf (W.sub _ h)
  have more : ∀ b ∈ wr, b ∈ S :: wr := fun b hb => List.mem_cons_of_mem _ hb
  intro k
  induction k with
  | zero =>
    intro i s hk hi hst hS hR
    obtain rfl : i = n := by omega
    refine codeAny_builtin F.entry_set_update_loop ?_
    rw [Around.under_plainId F.plain_set_update_loop _]
    show wpAny _ A.in1 (pyNext (.ref I) >>= _) _ _ s
    refine wpAny_bind (W.done s _ _ hst fun s' hm => ?_)
    rw [List.take_of_length_le (by omega)] at hS
    exact wpAny_pure (hR s' (hm.mono more) (setOf_at hS fun o e => hm.heap S o hSw e))
  | succ k ih =>
    intro i s hk hi hst hS hR
    have hlt : i < n := by omega
    refine codeAny_builtin F.entry_set_update_loop ?_
    rw [Around.under_plainId F.plain_set_update_loop _]
    show wpAny _ A.in1 (pyNext (.ref I) >>= _) _ _ s
    refine wpAny_bind (W.item i s _ _ hlt hst fun v s' hP hst' hm => ?_)
    obtain ⟨z, t, hz, rfl⟩ := hval i v hP
    have hS' := setOf_at hS fun o e => hm.heap S o hSw e
    show wpAny _ A.in1 (holding [Value.str z t] (setAdd S (.str z t)) >>= _) _ _ s'
    refine wpAny_bind (wpAny_holding ?_)
    unfold setAdd
    refine wpAny_holding (wpAny_bind ((PySem.strKind P w).pyHash (k := z) (strKind_is _ _ _ _) ?_))
    refine wpAny_setAddHashed_of (knd := PySem.strKind P w) (s := { s' with toks := s'.toks + 1 }) (strKind_is _ _ _ _) rfl hS' (by omega) fun h' hsb hS2 => ?_
    have hz' : z ∉ xs.take i := fun hm => by
      obtain ⟨j, hj⟩ := List.mem_iff_getElem?.mp hm
      have hji : j < i := by
        have := (List.getElem?_eq_some_iff.mp hj).1
        simp at this
        omega
      rw [List.getElem?_take_of_lt hji] at hj
      obtain ⟨a1, a2⟩ := List.getElem?_eq_some_iff.mp hj
      obtain ⟨b1, b2⟩ := List.getElem?_eq_some_iff.mp hz
      have := (List.getElem_inj nd).mp (a2.trans b2.symm)
      omega
    have hS3 : h'.SetOf (PySem.strKind P w) S (fun j => decide (j ∈ xs.take (i + 1))) (i + 1) := setOf_cg hS2 (fun j => by
      rw [List.take_add_one, hz]
      simp [List.mem_append]) (by simp [hz'])
    refine wpAny_pure ⟨plainId_quiet F.plain_set_update_loop _, ih (i + 1) _ (by omega) hlt (W.frame _ s' _ _ hst' (Nat.le_succ _) fun b hb o e => ?_) hS3 fun s'' hm'' hS'' => ?_⟩
    · rw [hsb.2 b (fun h : b = S => hSf (by rw [← h]; exact hb))]; exact e
    · refine hR s'' (Moved.trans W.gtrans ((hm.mono more).then_heap (Nat.le_succ _) fun b o hb e => ?_) hm'') hS''
      rw [hsb.2 b (fun h : b = S => hb (by rw [h]; exact List.mem_cons_self))]; exact e
def StS (P : Program) (w : World) (s : Shared) (xs : List Str) : Shared → Prop := fun s₂ => ∃ h' tk, s₂ = { s with heap := h', toks := tk } ∧ h'.SetOf (PySem.strKind P w) s.heap.objs.size (fun j => decide (j ∈ xs)) xs.length ∧ ∀ b o, s.heap.get? b = some o → h'.get? b = some o
theorem zs_init {l : Addr} {items : Array Value} (xs : List Str) (hh : A.handled = none) (hl : s.heap.IsList l items) (hit : StrsAre items.toList xs) (nd : xs.Nodup) (hb : xs.length + 1 < scanBound) :
    wpAny (model P w) A.in1 (Builtin.«set.__init__» ⟨[.ref s.heap.objs.size, .ref l], []⟩) (fun fin s' => match fin with | .done f => wants (fun r s₂ => r = .none ∧ StS P w s xs s₂) E (.ok f) s' | .again c' => c'.quiet = true ∧ codeAny (model P w) A c' (wants (fun r s₂ => r = .none ∧ StS P w s xs s₂) E) s') (fun e s' => wants (fun r s₂ => r = .none ∧ StS P w s xs s₂) E (.error e) s')
      { s with heap := s.heap.push (emO w) } := by
  have hisz : items.size = xs.length := by
    have q := StrsAre.len_eq hit
    rw [Array.length_toList] at q
    omega
  have hS : (s.heap.push (emO w)).get? s.heap.objs.size = some (emO w) := Heap.get?_push_size _ rfl
  have hT : Shared.TypeIs { s with heap := s.heap.push (emO w) } (.ref s.heap.objs.size) "set" := ⟨_, hS, rfl⟩
  obtain ⟨ol, hol, hcl, nl, hdl⟩ := hl
  obtain ⟨ocls, odict, odata, oslots⟩ := ol
  simp only at hcl hdl
  subst hcl; subst hdl
  have hol' : (s.heap.push (emO w)).get? l = some { cls := .type "list", dict := odict, data := .seq items nl, slots := oslots } := Heap.get?_push_of_some _ hol
  have hsls := F.sub_list_set
  have hslf := F.sub_list_frozenset
  have hne : (Value.type "list" == Value.type "dict") = false := by decide
  have hl1 : (s.heap.push (emO w)).IsList l items := ⟨_, hol', rfl, nl, rfl⟩
  have hS' : (s.heap.push (emO w)).get? s.heap.objs.size = some { cls := .type "set", dict := none, data := .set #[] 0 (.fresh 0 0 (!w.params.followText "set-order")) } := hS
  unfold Builtin.«set.__init__» noKeywords Builtin.Frozenset.updateFrom
  generalize hPI : pyIter = PI
  wp_walk
  subst hPI
  refine wpAny_pyIter_list hl1 ?_
  refine wpAny_bind (wpAny_runValue ?_)
  have hlS : l < s.heap.objs.size := Heap.lt_size hol
  have hh3 : A.in1.in1.handled = none := by simp [hh]
  have hneI : l ≠ (s.heap.push (emO w)).objs.size := by
    rw [Heap.size_push]; exact Nat.ne_of_lt (Nat.lt_succ_of_lt hlS)
  have hSf : s.heap.objs.size ∉ [(s.heap.push (emO w)).objs.size, l] := by
    rw [Heap.size_push]
    simp only [List.mem_cons, List.not_mem_nil, or_false, not_or]
    exact ⟨Nat.ne_of_lt (Nat.lt_succ_self _), Nat.ne_of_gt hlS⟩
  have hval : ∀ (i : Nat) (v : Value), items[i]? = some v → ∃ k t, xs[i]? = some k ∧ v = .str k t := fun i v hv => strAt hit i v (by rw [Array.getElem?_toList]; exact hv)
  refine zs_loop ((Walks.list hh3 _ l hneI items).toS) s.heap.objs.size hSf xs hisz nd hb hval items.size 0 _ (by omega) (Nat.zero_le _) ⟨⟨_, Heap.get?_push_size _ rfl, rfl, rfl⟩, hl1.push _⟩
    (setOf_cg ((setObjOf_fresh (knd := PySem.strKind P w) (!w.params.followText "set-order")).setOf (Heap.get?_push_of_some _ hS) (by unfold scanBound; omega)) (fun _ => by simp) rfl) fun s' hm hS2 => ?_
  obtain ⟨h', g2, d', tk', os'⟩ := s'
  have eg : g2 = s.gens := hm.gens
  have ed : d' = s.drawn := hm.drawn
  have eo : os' = s.os := hm.os
  subst eg; subst ed; subst eo
  show wpAny _ _ _ _ _ _
  refine wpAny_pure ?_
  show wpAny _ _ (ret Value.none) _ _ _
  rw [hisz] at hS2
  refine wpAny_pure ⟨rfl, h', tk', rfl, hS2, fun b o e => ?_⟩
  have hb0 : b < s.heap.objs.size := Heap.lt_size e
  refine hm.heap b o ?_ (Heap.get?_push_of_some _ (Heap.get?_push_of_some _ e))
  simp only [List.mem_cons, List.not_mem_nil, or_false, not_or]
  exact ⟨Nat.ne_of_lt hb0, by rw [Heap.size_push]; exact Nat.ne_of_lt (Nat.lt_succ_of_lt hb0)⟩
theorem zs_call {l : Addr} {items : Array Value} (ns : List Str) {Q : Value → Shared → Prop} (hh : A.handled = none) (hl : s.heap.IsList l items) (hit : StrsAre items.toList ns) (nd : ns.Nodup) (hb : ns.length + 1 < scanBound)
    (h : ∀ (h' : Heap) (tk : Nat), h'.SetOf (PySem.strKind P w) s.heap.objs.size (fun j => decide (j ∈ ns)) ns.length → (∀ b o, s.heap.get? b = some o → h'.get? b = some o) → Q (.ref s.heap.objs.size) { s with heap := h', toks := tk }) :
    wpAny (model P w) A (call (.type "set") [.ref l]) Q E s := by
  obtain ⟨c, tl, hmro⟩ := F.called_set.mro
  have hmade := F.called_set.made; have hsub := F.called_set.sub
  have h1 := F.called_set.notType; have h2 := F.called_set.canCreate
  have hct := F.typeCall_set_1 (.ref l)
  refine wpAny_call (codeAny_of_tree ?_)
  show wpAny _ _ (callAny (.type "set") ⟨[.ref l], []⟩) _ _ s
  refine wpAny_pure ⟨Code.quiet_builtin _ (by decide +kernel), codeAny_builtin F.entry_type_call ?_⟩
  rw [Around.under_plain (weight_type_call_type "set" [.ref l] []) rfl]
  repeat (any_goals (first | assumption | wp_step))
  refine codeAny_mono (code_set_led1 (.ref l) (E := E) (Q₁ := fun obj s₁ => obj = .ref s.heap.objs.size ∧ s₁ = { s with heap := s.heap.push (emO w) }) ⟨rfl, rfl⟩) fun r s₁ hr => ?_
  cases r with
  | error e => exact hr
  | ok fl =>
    cases fl with
    | ret obj =>
      obtain ⟨rfl, rfl⟩ := hr
      have hT : Shared.TypeIs { s with heap := s.heap.push (emO w) } (.ref s.heap.objs.size) "set" := ⟨_, Heap.get?_push_size _ rfl, rfl⟩
      have hli := F.called_set.init.lookup; have hbi := F.called_set.init.bind (.ref s.heap.objs.size)
      repeat (any_goals (first | assumption | wp_step))
      refine codeAny_mono (codeAny_call_builtin (R := wants (fun r s₂ => r = .none ∧ StS P w s ns s₂) E) F.called_set.init.plain F.entry_set_init (check_set_init_1 hT (zs_init ns (by simpa using hh) hl hit nd hb))) fun r₂ s₂ hr₂ => ?_
      cases r₂ with
      | error e => exact hr₂
      | ok fl₂ =>
        cases fl₂ with
        | ret r =>
          obtain ⟨rfl, h', tk, rfl, q1, q2⟩ := hr₂
          repeat (any_goals (first | assumption | wp_step))
          exact h _ _ q1 q2
        | _ => exact hr₂.elim
    | _ => exact hr.elim
end
/-- a set of n texts at p -/
def SeSO (P : Program) (w : World) (p : Addr) (n : Nat) : HO := .ext fun h => ∃ S, h.SetOf (PySem.strKind P w) p S n
section
variable {X : Cx}
theorem strsOfVals : ∀ {xs : List Str} {us : List Value}, Vals (xs.map V.str) us → StrsAre us xs
  | [], _, .nil => .nil
  | _ :: _, _, .cons ⟨t, e⟩ r => by subst e; exact .cons _ t (strsOfVals r)
theorem cr_setS (hc : X.calm = true) : CallR X (.type "set") (fun vs H Q => ∃ (l : Addr) (xs : List Str), vs = [V.ref l] ∧ SqL X.K H l (xs.map V.str) ∧ xs.Nodup ∧ xs.length + 1 < 4096 ∧ ∀ p, H p = none → Q (.ref p) (upd H p (SeSO X.prog X.w p xs.length))) := by
  intro pins s σ H vs us Q I r h
  obtain ⟨l, xs, rfl, hs, nd, hn, q⟩ := h
  rw [Vals.ref1 r]
  obtain ⟨its, rv, pl, hz⟩ := I.list hs
  refine zs_call xs (I.ok.hd hc) pl.isList (strsOfVals (by simpa using rv)) nd hn fun h' tk R k => ?_
  obtain ⟨o, es, ep, t, ho, rest⟩ := id R
  exact ⟨.ref s.heap.objs.size, _, I.laid (t' := tk) k (Nat.le_refl _) (show ObjOk X.prog X.w _ h' _ (SeSO X.prog X.w s.heap.objs.size xs.length) from ⟨⟨_, R⟩, ⟨o, ho⟩, fun h1 h2 ⟨S, z⟩ kk => ⟨S, setOf_at z kk⟩⟩), rfl, q _ (I.hok.fresh (Nat.le_refl _))⟩
theorem cr_lenSetS : CallR X (.builtin "len") (fun vs H Q => ∃ a n, vs = [V.ref a] ∧ H a = some (SeSO X.prog X.w a n) ∧ Q (.int n) H) := by
  intro pins s σ H vs us Q I r h
  obtain ⟨a, n, rfl, ha, q⟩ := h
  rw [Vals.ref1 r]
  obtain ⟨S, o, es, ep, t, ho, hex, hd, g, hm, hb, hf, hn⟩ := (show ObjOk X.prog X.w H s.heap a (SeSO X.prog X.w a n) from I.hok a _ ha).1
  refine call_len_set ho hex hd hf (by unfold scanBound at hb; omega) ?_
  rw [hn]
  exact ⟨.int n, H, I.tok _, ⟨_, rfl⟩, q⟩
end
end L2
namespace Sh
open PySem L2 He
section
variable {X : Cx} {W : We} {e : Expr} {f : EF} {pos p p2 pos2 : Pos}
def intsD : List D → Option (List Int)
  | [] => some []
  | .int i :: l => (intsD l).map (i :: ·)
  | _ => none
def textsD : List D → Option (List Str)
  | [] => some []
  | .str i :: l => (textsD l).map (i :: ·)
  | _ => none
@[simp] theorem intsD_map (l : List Int) : intsD (l.map D.int) = some l := by
  induction l with
  | nil => rfl
  | cons i l ih => rw [List.map_cons]; unfold intsD; rw [ih]; rfl
@[simp] theorem textsD_map (l : List Str) : textsD (l.map D.str) = some l := by
  induction l with
  | nil => rfl
  | cons i l ih => rw [List.map_cons]; unfold textsD; rw [ih]; rfl
theorem intsD_some : ∀ {l : List D} {ns : List Int}, intsD l = some ns → l = ns.map D.int
  | [], ns, h => by cases (Option.some.inj h : [] = ns); rfl
  | x :: l, ns, h => by
    cases x with
    | int i =>
      unfold intsD at h
      obtain ⟨r, hr, rfl⟩ := Option.map_eq_some_iff.mp h
      rw [List.map_cons, ← intsD_some hr]
    | _ => exact nomatch h
theorem textsD_some : ∀ {l : List D} {ns : List Str}, textsD l = some ns → l = ns.map D.str
  | [], ns, h => by cases (Option.some.inj h : [] = ns); rfl
  | x :: l, ns, h => by
    cases x with
    | str i =>
      unfold textsD at h
      obtain ⟨r, hr, rfl⟩ := Option.map_eq_some_iff.mp h
      rw [List.map_cons, ← textsD_some hr]
    | _ => exact nomatch h
theorem reps_int_vals {K : PySem.W.Frag} {mg : Str → Option Value} {r : List Addr} {G : Hp} : ∀ {ns : List Int} {vs : List V}, Reps K mg r G (ns.map D.int) vs → vs = ns.map V.int
  | [], _, .nil => rfl
  | _ :: ns, _, .cons (.int _) t => by rw [reps_int_vals t]; rfl
theorem reps_str_vals {K : PySem.W.Frag} {mg : Str → Option Value} {r : List Addr} {G : Hp} : ∀ {ns : List Str} {vs : List V}, Reps K mg r G (ns.map D.str) vs → vs = ns.map V.str
  | [], _, .nil => rfl
  | _ :: ns, _, .cons (.str _) t => by rw [reps_str_vals t]; rfl
noncomputable def kSortSet (x : D) (st : Sto) : Res D := match (itemsOf x st).bind intsD with
  | some ns => if ns.length < 4095 then .ok (.lst ((srtI (dedI ns)).map D.int)) st else .bad
  | none => .bad
def kLenSet (x : D) (st : Sto) : Res D := match (itemsOf x st).bind intsD with
  | some ns => if ns.length < 4095 then .ok (.int (dedI ns).length) st else .bad
  | none => .bad
def kLenSetS (x : D) (st : Sto) : Res D := match (lstOf x st).bind textsD with
  | some ns => if ns.Nodup ∧ ns.length < 4095 then .ok (.int ns.length) st else .bad
  | none => .bad
@[simp] def fUn1 (k : D → Sto → Res D) (f : EF) : EF := fun sg st => (f sg st).bind fun x st1 => k x st1
theorem se_sortSet (hc : X.calm = true) (hu : X.A.units + 64 < cLine) (hg : Gl X "sorted") (hm : X.mg "sorted" = none) (hg2 : Gl X "set") (hm2 : X.mg "set" = none) (he : SE X W e f) (hs : starEach [e] X.env = (false, eval e X.env) :: starEach [] X.env := by rfl)
    (hs2 : starEach [.Call (.Name "set" p2) [e] [] pos2] X.env = (false, eval (.Call (.Name "set" p2) [e] [] pos2) X.env) :: starEach [] X.env := by rfl) : SE X W (.Call (.Name "sorted" p) [.Call (.Name "set" p2) [e] [] pos2] [] pos) (fUn1 kSortSet f) :=
  pe_weak (pe_callB (cr_sortSet hc hu) hg hm (by decide +kernel) (pa_cons (pe_callTy (cr_setI hc) hg2 hm2 (by decide +kernel) (pa_cons he pa_nil hs) (by decide) (by decide) hs rfl) pa_nil hs2) (by decide) (by decide) hs2 rfl) fun σ H Q ⟨m, sg, st, em, rm, rs, hp⟩ => by
    subst em
    refine ⟨m, sg, st, rfl, rm, rs, hp.bindc fun m1 x v st1 e1 r1 q1 hp1 => ?_⟩
    unfold kSortSet at hp1
    split at hp1
    · rename_i ns h
      obtain ⟨l, hl, hn⟩ := Option.bind_eq_some_iff.mp h
      obtain ⟨q, vs, rfl, k1, k2⟩ := items_of r1 q1 hl
      rw [intsD_some hn] at k2
      rw [reps_int_vals k2] at k1
      split at hp1
      · rename_i hz
        refine ⟨q, ns, rfl, k1, by omega, fun p0 hp0 => ⟨p0, _, _, rfl, upd_same, fun ms d ha hmem hd => ?_⟩⟩
        have em : ms = srtI (dedI ns) := asc_uniq ha (srtI_asc (nodup_dedI ns)) fun k => by rw [hmem, (srtI_perm _).mem_iff, mem_dedI, decide_eq_true_eq]
        rw [em]
        have e2 := Ext.lay (o := SetO X.w p0 (fun j => decide (j ∈ ns)) (dedI ns).length) r1 hp0
        have r2 := r1.lay (o := SetO X.w p0 (fun j => decide (j ∈ ns)) (dedI ns).length) hp0
        have := (Post.mono hp1 e2).lay (α := D) (R' := RD X.K X.mg) (o := .lst ((srtI (dedI ns)).map V.int)) r2 (fun q hq => .lst upd_same (reps_ints (X := X) (m := (m1.lay p0 _).lay q _) (srtI (dedI ns)))) d hd
        exact this
      · exact False.elim hp1
    · exact False.elim hp1
theorem lenSet_of {ho : Addr → HO} {σ : St} {Q : VK} {m1 : Hw} {st1 : Sto} {n : Nat} (r1 : Rel X.K X.mg m1 st1) (hp1 : Post X.K X.mg W.w m1 σ (RD X.K X.mg) Q (.ok (.int n) st1)) {p0 : Addr} (hp0 : m1.h p0 = none) : Q (.int n) (upd m1.h p0 (ho p0)) :=
  hp1 (m1.lay p0 (ho p0)) _ (Ext.lay r1 hp0) (r1.lay hp0) (.int _)
theorem se_lenSet (hc : X.calm = true) (hg : Gl X "len") (hm : X.mg "len" = none) (hg2 : Gl X "set") (hm2 : X.mg "set" = none) (he : SE X W e f) (hs : starEach [e] X.env = (false, eval e X.env) :: starEach [] X.env := by rfl)
    (hs2 : starEach [.Call (.Name "set" p2) [e] [] pos2] X.env = (false, eval (.Call (.Name "set" p2) [e] [] pos2) X.env) :: starEach [] X.env := by rfl) : SE X W (.Call (.Name "len" p) [.Call (.Name "set" p2) [e] [] pos2] [] pos) (fUn1 kLenSet f) :=
  pe_weak (pe_callB cr_lenSet hg hm (by decide +kernel) (pa_cons (pe_callTy (cr_setI hc) hg2 hm2 (by decide +kernel) (pa_cons he pa_nil hs) (by decide) (by decide) hs rfl) pa_nil hs2) (by decide) (by decide) hs2 rfl) fun σ H Q ⟨m, sg, st, em, rm, rs, hp⟩ => by
    subst em
    refine ⟨m, sg, st, rfl, rm, rs, hp.bindc fun m1 x v st1 e1 r1 q1 hp1 => ?_⟩
    unfold kLenSet at hp1
    split at hp1
    · rename_i ns h
      obtain ⟨l, hl, hn⟩ := Option.bind_eq_some_iff.mp h
      obtain ⟨q, vs, rfl, k1, k2⟩ := items_of r1 q1 hl
      rw [intsD_some hn] at k2
      rw [reps_int_vals k2] at k1
      split at hp1
      · rename_i hz
        exact ⟨q, ns, rfl, k1, by omega, fun p0 hp0 => ⟨p0, _, _, rfl, upd_same, lenSet_of (ho := fun p0 => SetO X.w p0 (fun j => decide (j ∈ ns)) (dedI ns).length) r1 hp1 hp0⟩⟩
      · exact False.elim hp1
    · exact False.elim hp1
theorem se_lenSetS (hc : X.calm = true) (hg : Gl X "len") (hm : X.mg "len" = none) (hg2 : Gl X "set") (hm2 : X.mg "set" = none) (he : SE X W e f) (hs : starEach [e] X.env = (false, eval e X.env) :: starEach [] X.env := by rfl)
    (hs2 : starEach [.Call (.Name "set" p2) [e] [] pos2] X.env = (false, eval (.Call (.Name "set" p2) [e] [] pos2) X.env) :: starEach [] X.env := by rfl) : SE X W (.Call (.Name "len" p) [.Call (.Name "set" p2) [e] [] pos2] [] pos) (fUn1 kLenSetS f) :=
  pe_weak (pe_callB cr_lenSetS hg hm (by decide +kernel) (pa_cons (pe_callTy (cr_setS hc) hg2 hm2 (by decide +kernel) (pa_cons he pa_nil hs) (by decide) (by decide) hs rfl) pa_nil hs2) (by decide) (by decide) hs2 rfl) fun σ H Q ⟨m, sg, st, em, rm, rs, hp⟩ => by
    subst em
    refine ⟨m, sg, st, rfl, rm, rs, hp.bindc fun m1 x v st1 e1 r1 q1 hp1 => ?_⟩
    unfold kLenSetS at hp1
    split at hp1
    · rename_i ns h
      obtain ⟨l, hl, hn⟩ := Option.bind_eq_some_iff.mp h
      obtain ⟨q, vs, rfl, k1, k2⟩ := lst_of r1 q1 hl
      rw [textsD_some hn] at k2
      rw [reps_str_vals k2] at k1
      split at hp1
      · rename_i hz
        exact ⟨q, ns, rfl, k1, hz.1, by omega, fun p0 hp0 => ⟨p0, _, rfl, upd_same, lenSet_of (ho := fun p0 => SeSO X.prog X.w p0 ns.length) r1 hp1 hp0⟩⟩
      · exact False.elim hp1
    · exact False.elim hp1
end
end Sh
/-! Part ZQ: list(d.values()) -/
namespace L2
open PySem PySem.Spec PyProof.Rows
section
variable {X : Cx}
theorem cr_listVals (hc : X.calm = true) : CallR X (.type "list") (fun xs H Q => ∃ p d kvs, xs = [V.ref p] ∧ H p = some (vwO p d) ∧ H d = some (.dK kvs) ∧ ∀ q, H q = none → Q (.ref q) (upd H q (.lst (kvs.map (·.2))))) := by
  intro pins s σ H xs us Q I r h
  obtain ⟨p, d, kvs, rfl, hp, hd, q⟩ := h
  rw [Vals.ref1 r]
  have hv : s.heap.get? p = some { cls := .type "dict_values", data := .fields #[.ref d] } := (show ObjOk X.prog X.w H s.heap p (vwO p d) from I.hok p _ hp).1
  obtain ⟨z, lo, vs, kv, hm⟩ := (show ObjOk X.prog X.w H s.heap d (.dK kvs) from I.hok d _ hd)
  obtain ⟨ep, hat⟩ := hm.dictAt
  have hl : kvs.length = vs.length := Paired.length kv
  refine PySem.W.kdl_call (PySem.W.kdl_values (knd := mixKind X.prog X.w) (kvs := vs) (ep := ep)) (I.ok.hd hc) ⟨⟨_, hv, rfl, rfl⟩, hat⟩ (by rw [← hl]; exact z) fun h' tk acc' c' keep hS hacc => ?_
  refine ⟨.ref s.heap.objs.size, upd H s.heap.objs.size (.lst (kvs.map (·.2))), I.laid keep (Nat.le_refl _) (show ObjOk X.prog X.w _ _ _ (.lst (kvs.map (·.2))) from ⟨by rw [List.length_map]; exact z, acc'.toList, c', ?_, by rw [Array.toArray_toList]; exact hS⟩), rfl, q _ (I.hok.fresh (Nat.le_refl _))⟩
  have hln : acc'.toList.length = acc'.size := by simp
  refine vals_of_at (by rw [List.length_map, hln, hacc.1, hl]) fun j x u h1 h2 => ?_
  obtain ⟨k, hk⟩ := hacc.2 j u (by rw [← Array.getElem?_toList]; exact h2)
  rw [List.getElem?_map] at h1
  obtain ⟨⟨k', x'⟩, hkx, rfl⟩ := Option.map_eq_some_iff.mp h1
  obtain ⟨u', hu', ru⟩ := kv_get kv hkx
  rw [hk] at hu'
  cases hu'
  exact ru
end
end L2
namespace Sh
open PySem L2 He
section
variable {X : Cx} {W : We} {e : Expr} {f : EF} {pos apos cpos p : Pos}
def kListV (x : D) (st : Sto) : Res D := match x with
  | .loc n => match st[n]? with
    | some (.dict l) => if l.length ≤ 16777216 then .ok (.lst (l.map (·.2))) st else .bad
    | _ => .bad
  | _ => .bad
theorem se_listVals (hc : X.calm = true) (hg : Gl X "list") (hm : X.mg "list" = none) (he : SE X W e f) (hbase : attributeBase e "values" X.env (eval e X.env) = eval e X.env := by rfl) (hline : (apos.endLine == cpos.line) = true := by rfl)
    (hs : starEach [.Call (.Attribute e "values" apos) [] [] cpos] X.env = (false, eval (.Call (.Attribute e "values" apos) [] [] cpos) X.env) :: starEach [] X.env := by rfl) : SE X W (.Call (.Name "list" p) [.Call (.Attribute e "values" apos) [] [] cpos] [] pos) (fUn1 kListV f) :=
  pe_weak (pe_callTy (cr_listVals hc) hg hm (by decide +kernel) (pa_cons (pe_vals he hbase hline) pa_nil hs) (by decide) (by decide) hs rfl) fun σ H Q ⟨m, sg, st, em, rm, rs, hp⟩ => by
    subst em
    refine ⟨m, sg, st, rfl, rm, rs, hp.bindc fun m1 x v st1 e1 r1 q1 hp1 => ?_⟩
    unfold kListV at hp1
    split at hp1
    · rename_i n
      split at hp1
      · rename_i l hl
        split at hp1
        · rename_i hz
          obtain ⟨a, kvs, rfl, k1, k2⟩ := dict_at r1 q1 hl
          refine ⟨a, kvs, rfl, k1, fun p0 hp0 => ⟨p0, a, kvs, rfl, upd_same, by rw [upd_ne (ne_of_none k1 hp0)]; exact k1, fun q hq => ?_⟩⟩
          have e2 := Ext.lay (o := vwO p0 a) r1 hp0
          have r2 := r1.lay (o := vwO p0 a) hp0
          exact (Post.mono hp1 e2).lay (α := D) (R' := RD X.K X.mg) (o := .lst (kvs.map (·.2))) r2 (fun q hq => .lst upd_same ((k2.to.2.mono e2).mono (Ext.lay r2 hq))) q hq
        · exact False.elim hp1
      · exact False.elim hp1
    · exact False.elim hp1
@[simp] theorem kListV_at {n : Nat} {st : Sto} {l : List (Key × D)} (h : st[n]? = some (.dict l)) (hl : l.length ≤ 16777216) : kListV (.loc n) st = .ok (.lst (l.map (·.2))) st := by
  unfold kListV
  simp only [h, if_pos hl]
end
end Sh
/-! Part ZR: properties; dict(d); pop and extend of live lists; live objects made with keywords; attributes as targets of a tuple -/
namespace Sh
open PySem L2 He
/-! the getter of a property, by the class and the name -/
def fAdP (K : PySem.W.Frag) (p : Str × Option Str) : Addr := match PySem.W.recIn K (fAd K p) "property" with
  | some (.ref g :: _) => g
  | _ => 0
def fnWP (K : PySem.W.Frag) (p : Str × Option Str) : FnW := match K.lookup (fAdP K p) with
  | some ⟨_, _, .func fd, _⟩ => some (fd.name, fd.qualname, fd.params, fd.body, fd.scope, fd.globals, fd.closure, fd.builtins)
  | _ => none
def okP (K : PySem.W.Frag) (d : DefD) : Bool := PySem.W.keepIn K (.ref (fAdP K d.at_)) && (match K.lookup (fAdP K d.at_) with
  | some ⟨_, _, .func fd, _⟩ => PySem.W.codeIn K fd.code d.qual && (dflB K fd.defaults (d.dvs K) && kwdB K fd.kwdefaults (d.kws K))
  | _ => false)
theorem funDP {K : PySem.W.Frag} {d : DefD} (e : fnWP K d.at_ = d.val) (c : okP K d = true) : ∃ fd, FunD K d.name d.qual d.params d.body d.scope (d.dvs K) (d.kws K) (fAdP K d.at_) fd := by
  obtain ⟨kp, c2⟩ := Bool.and_eq_true_iff.mp c
  unfold fnWP at e
  cases q : K.lookup (fAdP K d.at_) with
  | none => rw [q] at c2; cases c2
  | some o =>
    obtain ⟨oc, od, dt, osl⟩ := o
    rw [q] at c2 e
    cases dt with
    | func fd =>
      obtain ⟨n1, n2, n3, n4, n5, n6, n7, n8, n9, n10, n11, n12, n13, n14, n15⟩ := fd
      have e2 : (some (n1, n2, n3, n4, n5, n6, n7, n15) : FnW) = some (d.name, d.qual, d.params, .stmts d.body, d.scope, mainGlobals, [], builtinsNs) := e
      simp only [Option.some.injEq, Prod.mk.injEq] at e2
      obtain ⟨h1, h2, h3, h4, h5, h6, h7, h8⟩ := e2
      subst h1 h2 h3 h4 h5 h6 h7 h8
      obtain ⟨k1, k2⟩ := Bool.and_eq_true_iff.mp (show (PySem.W.codeIn K n13 d.qual && (dflB K n8 (d.dvs K) && kwdB K n9 (d.kws K))) = true from c2)
      obtain ⟨k3, k4⟩ := Bool.and_eq_true_iff.mp k2
      exact ⟨_, ⟨oc, od, n8, n9, n10, n11, n12, n13, n14, osl, rfl, q, k1, dflB_ok k3, kwdB_ok k4⟩, kp⟩
    | _ => cases c2
/-! the head's facts, the properties' getters among them -/
def obsQ (fx : List (PySem.W.Frag → Bool)) (fn fp : List DefD) (K : PySem.W.Frag) : AlS := ((fx.all fun f => f K) && ((fn.all fun d => d.ok K) && fp.all fun d => okP K d), (fn.map fun d => fnW K d.at_) ++ fp.map fun d => fnWP K d.at_)
def valQ (fn fp : List DefD) : AlS := (true, fn.map DefD.val ++ fp.map DefD.val)
def obsQG (n : Nat) (fx : List (PySem.W.Frag → Bool)) (fn fp : List DefD) (g : Addr → Option Obj) : AlS := obsQ fx fn fp (frG g (asD g n))
def hookQ (n : Nat) (fx : List (PySem.W.Frag → Bool)) (fn fp : List DefD) : PySem.W.Hook where
  α := AlS
  obs := fun s => obsQG n fx fn fp s.heap.get?
  val := fun _ => valQ fn fp
  says := fun _ h => ∃ K : PySem.W.Frag, K.In h ∧ obsQ fx fn fp K = valQ fn fp
  of := fun _ _ e => ⟨_, frG_in, e⟩
  keeps := fun _ _ _ ⟨K, hK, c⟩ k => ⟨K, PySem.W.Frag.In.keeps hK k, c⟩
theorem obsQG_eq {n : Nat} {fx : List (PySem.W.Frag → Bool)} {fn fp : List DefD} {g : Addr → Option Obj} {s : Shared} (h : ∀ a, g a = s.heap.get? a) : obsQG n fx fn fp g = (hookQ n fx fn fp).obs s := by
  have e : g = s.heap.get? := funext h
  rw [e]
  rfl
section
variable {fx : List (PySem.W.Frag → Bool)} {fn fp : List DefD} {K : PySem.W.Frag}
theorem obsQ_parts (c : obsQ fx fn fp K = valQ fn fp) : obsS fx fn K = valS fn ∧ (fp.all fun d => okP K d) = true ∧ (fp.map fun d => fnWP K d.at_) = fp.map DefD.val := by
  have c1 : ((fx.all fun f => f K) && ((fn.all fun d => d.ok K) && fp.all fun d => okP K d)) = true := congrArg (fun z : AlS => z.1) c
  have c2 : (fn.map fun d => fnW K d.at_) ++ (fp.map fun d => fnWP K d.at_) = fn.map DefD.val ++ fp.map DefD.val := congrArg (fun z : AlS => z.2) c
  obtain ⟨a, b⟩ := Bool.and_eq_true_iff.mp c1
  obtain ⟨b1, b2⟩ := Bool.and_eq_true_iff.mp b
  obtain ⟨d1, d2⟩ := List.append_inj c2 (by simp)
  refine ⟨?_, b2, d2⟩
  unfold obsS valS
  rw [a, b1, d1]
  rfl
theorem sFactQ (c : obsQ fx fn fp K = valQ fn fp) (i : Nat) {f : PySem.W.Frag → Bool} (h : fx[i]? = some f := by rfl) : f K = true := sFact (obsQ_parts c).1 i h
theorem sDefQ (c : obsQ fx fn fp K = valQ fn fp) (i : Nat) {d : DefD} (h : fn[i]? = some d := by rfl) : ∃ fd, FunD K d.name d.qual d.params d.body d.scope (d.dvs K) (d.kws K) (fAd K d.at_) fd := sDef (obsQ_parts c).1 i h
theorem sProp (c : obsQ fx fn fp K = valQ fn fp) (i : Nat) {d : DefD} (h : fp[i]? = some d := by rfl) : ∃ fd, FunD K d.name d.qual d.params d.body d.scope (d.dvs K) (d.kws K) (fAdP K d.at_) fd := by
  obtain ⟨_, c2, e⟩ := obsQ_parts c
  have e2 : (fp.map fun d => fnWP K d.at_)[i]? = (fp.map DefD.val)[i]? := by rw [e]
  rw [List.getElem?_map, List.getElem?_map, h] at e2
  exact funDP (Option.some.inj e2) (List.all_eq_true.mp c2 d (List.mem_of_getElem? h))
end
def bProp (c f : Str) (K : PySem.W.Frag) : Bool := decide (PySem.W.findIn K (.ref (ga K c)) f = some (some (.ref (ma K (ga K c) f)))) && (decide (PySem.W.specialIn K (.ref (ma K (ga K c) f)) "__get__" = some (some (.builtin "property.__get__"))) && (decide (PySem.W.takesIn K (.ref (ma K (ga K c) f)) = some true) &&
  (match PySem.W.recIn K (ma K (ga K c) f) "property" with
    | some (.ref _ :: _) => true
    | _ => false)))
theorem prop_ok {K : PySem.W.Frag} {c f : Str} (h : bProp c f K = true) : PropOf K (ga K c) f (ma K (ga K c) f) (fAdP K (c, some f)) := by
  obtain ⟨h1, h⟩ := Bool.and_eq_true_iff.mp h
  obtain ⟨h2, h⟩ := Bool.and_eq_true_iff.mp h
  obtain ⟨h3, h4⟩ := Bool.and_eq_true_iff.mp h
  refine ⟨of_decide_eq_true h1, of_decide_eq_true h2, of_decide_eq_true h3, ?_⟩
  have e : fAd K (c, some f) = ma K (ga K c) f := rfl
  unfold fAdP
  rw [e]
  split at h4
  · rename_i g r hr
    rw [hr]
    exact ⟨r, rfl⟩
  · cases h4
section
variable {X : Cx} {W : We} {e o : Expr} {es : List Expr} {f fo : EF} {pos : Pos} {m : Str} {k : Nat} {C p g : Addr} {ps : List Str} {F : FF}
def okR : Res D → Res D
  | .ok d st => .ok d st
  | _ => .bad
@[simp] theorem okR_ok (d : D) (st : Sto) : okR (.ok d st) = .ok d st := rfl
/-- e.m, a property -/
@[simp] def fProp (c : Nat) (F : FF) (n : Nat) (fo : EF) : EF := fun sg st => (fo sg st).bind fun x st1 => match insOf c x st1 with
  | some _ => okR (cF F n [] [x] st1)
  | none => .bad
theorem se_prop {c : Nat} (h : DefOk X.prog X.w X.K X.mg X.base k g ps [] F) (hr : Room (k + 1) X.A) (hc : X.mg (cName c) = some (.ref C)) (cl : Cls X.K C) (hp : PropOf X.K C m p g) (ho : SE X W o fo)
    (hab : attributeBase o m X.env (eval o X.env) = eval o X.env := by rfl) : SE X W (.Attribute o m pos) (fProp c F ps.length fo) := by
  refine ⟨fun pins s σ H Q I hq => ?_⟩
  obtain ⟨w, sg, st, rfl, rm, rs, hh⟩ := hq
  refine attr_of hab (thn (ho.run pins s σ w.h (MPost X W σ sg Q fun x st1 => match insOf c x st1 with
    | some _ => okR (cF F ps.length [] [x] st1)
    | none => .bad) I ⟨w, sg, st, rfl, rm, rs, hh.bindc fun m1 x v st1 e1 r1 q1 hp1 => ⟨m1, x, st1, rfl, r1, rs.mono e1, q1, hp1⟩⟩) fun u s1 hz => ?_)
  obtain ⟨v, H1, I1, rv, m1, x, st1, rfl, r1, rs1, q1, hp1⟩ := hz
  dsimp only at hp1
  split at hp1
  · rename_i l hl
    obtain ⟨a, dx, fs, rfl, ha, _, _⟩ := ins_of r1 q1 hl hc
    obtain ⟨mA, O, _, _, _, _⟩ := ins_get I1.hok ha
    obtain ⟨od, J, _⟩ := O.look
    obtain rfl : u = Value.ref a := rv
    obtain ⟨rest, hrec⟩ := hp.rec_
    have I2 := I1.tok (s1.toks + 1)
    have hcd : (PySem.W.clsIn X.K C).isSome = true := by
      obtain ⟨cd, hc, _⟩ := PySem.W.any_some cl.hd
      rw [hc]
      rfl
    refine PySem.W.get_bind I1.kIn J (PySem.W.plainGet_of (cl.get m)).1 (PySem.W.findObj_data hcd hp.at_ hp.get hp.tak) (PySem.W.plainGet_of (cl.get m)).2 (wpAny_call (PySem.W.prop_get (s := { s1 with toks := s1.toks + 1 }) I1.kIn hrec ?_))
    obtain ⟨⟨fd, h1, h2, _⟩, h3⟩ := h
    obtain ⟨ds, dv, bb⟩ := h2 0 (Nat.zero_le _)
    cases dv
    rw [cF_cK] at hp1
    split at hp1
    · rename_i hln
      have hlen : [Value.ref a].length = ps.length := hln
      cases hF : F [x] st1 with
      | ok d st2 =>
        rw [hF] at hp1
        refine codeAny_mono (h1.run X.A.in1 X.stack { s1 with toks := s1.toks + 1 } m1.h ⟨[.ref a], []⟩ [.ref a] [.ref a] Q (fun _ _ _ => False) hr.in1 I2.env0.in1 (by simpa using bb _ [.ref a] I2.kIn (by simpa using hlen)) (.cons rfl .nil) ⟨m1, [x], st1, rfl, r1, .one q1, hln, by rw [hF]; exact hp1⟩) fun r s' hq => ?_
        cases r with
        | error er =>
          obtain ⟨_, _, _, _, _, _, _, _, _, _, _, _, hE⟩ := hq
          exact hE.elim
        | ok fl =>
          cases fl with
          | ret u =>
            obtain ⟨v, H', I3, rv, q3⟩ := I2.after hq
            show wpAny _ _ (handedOut u) _ _ _
            rw [PySem.W.handedOut_of (handed_of rv)]
            exact wpAny_pure ⟨v, H', I3, rv, q3⟩
          | next => exact False.elim hq
          | brk => exact False.elim hq
          | cont => exact False.elim hq
      | exc c o st2 => rw [hF] at hp1; exact False.elim hp1
      | bad => rw [hF] at hp1; exact False.elim hp1
    · exact False.elim hp1
  · exact False.elim hp1
end
/-! dict(d); pop, extend of live lists -/
section
variable {X : Cx} {W : We}
def bDictC : List D → Sto → Res D
  | [.loc n], st => match kvS st[n]? with
    | some l => .ok (.loc st.length) (st ++ [.dict l])
    | none => .bad
  | _, _ => .bad
theorem fits_dict : FitsL X W (fun xs H Q => ∃ (a : Addr) (kvs : List (Key × V)), xs = [.ref a] ∧ Rd H a (.dK kvs) ∧ ∀ p, H p = none → Q (.ref p) (upd H p (.dK kvs))) bDictC := by
  intro m st σ l vs Q rm ra hp
  unfold bDictC at hp
  split at hp
  · rename_i n
    obtain ⟨v, rfl, h1⟩ := reps1 ra
    split at hp
    · rename_i l hl
      obtain ⟨a, kvs, rfl, k1, k2⟩ := dict_rd rm h1 hl
      refine ⟨a, kvs, rfl, k1, fun p hn => ?_⟩
      refine hp (m.new p (.dK kvs)) (.ref p) (Ext.new rm hn) (rm.new hn ⟨kvs, upd_same, k2.to.1, k2.to.2.mono (Ext.new (o := .dK kvs) rm hn)⟩) (.loc ?_)
      show (m.r ++ [p])[st.length]? = some p
      rw [← rm.len, List.getElem?_append_right (Nat.le_refl _)]
      simp
    · exact False.elim hp
  · exact False.elim hp
def mPop (x : D) (l : List D) (st : Sto) : Res D := match x, l with
  | .loc n, [] => match st[n]? with
    | some (.lst xs) => match xs[xs.length - 1]? with
      | some d => .ok d (st.set n (.lst xs.dropLast))
      | none => .bad
    | _ => .bad
  | _, _ => .bad
theorem Reps.dropLast {K : PySem.W.Frag} {mg : Str → Option Value} {r : List Addr} {G : Hp} {l : List D} {vs : List V} (h : Reps K mg r G l vs) : Reps K mg r G l.dropLast vs.dropLast := by
  rw [List.dropLast_eq_take, List.dropLast_eq_take, h.length]
  exact h.take _
theorem fits_pop : FitsM X W rPop mPop := by
  intro m st σ x v l vs Q rm q ql hp
  unfold mPop at hp
  split at hp
  · split at hp
    · rename_i xs hx
      split at hp
      · rename_i d hd
        cases q with
        | loc h1 =>
          obtain ⟨ys, h2, h3⟩ := rm.obj _ _ _ h1 hx
          cases ql
          obtain ⟨y, hy, qy⟩ := h3.get hd
          have ex : Ext m (m.put _ (.lst ys.dropLast)) := Ext.put (List.mem_of_getElem? h1)
          refine ⟨_, ys, y, rfl, rfl, h2, by rw [← h3.length]; exact hy, ?_⟩
          exact hp (m.put _ (.lst ys.dropLast)) y ex (rm.put h1 ⟨_, upd_same, h3.dropLast⟩) (qy.mono ex)
      · exact False.elim hp
    · exact False.elim hp
  · exact False.elim hp
def mExt (x : D) (l : List D) (st : Sto) : Res D := match x, l with
  | .loc n, [.lst zs] => match st[n]? with
    | some (.lst xs) => if xs.length + zs.length ≤ 16777216 then .ok .non (st.set n (.lst (xs ++ zs))) else .bad
    | _ => .bad
  | _, _ => .bad
theorem fits_ext : FitsM X W rExtend mExt := by
  intro m st σ x v l vs Q rm q ql hp
  unfold mExt at hp
  split at hp
  · rename_i n zs
    split at hp
    · rename_i xs hx
      split at hp
      · rename_i hl
        cases q with
        | loc h1 =>
          obtain ⟨ys, h2, h3⟩ := rm.obj _ _ _ h1 hx
          obtain ⟨b, rfl, qb⟩ := reps1 (X := X) ql
          cases qb with
          | lst g1 g2 =>
            rename_i ws a
            have ex : Ext m (m.put _ (.lst (ys ++ ws))) := Ext.put (List.mem_of_getElem? h1)
            refine ⟨_, _, ys, ws, rfl, rfl, h2, rm.sub _ _ g1, by rw [← h3.length, ← g2.length, sizeLine_eq]; exact hl, ?_⟩
            exact hp (m.put _ (.lst (ys ++ ws))) .non ex (rm.put h1 ⟨_, upd_same, h3.append g2⟩) .non
      · exact False.elim hp
    · exact False.elim hp
  · exact False.elim hp
end
/-! live objects made with keywords -/
section
variable {X : Cx} {W : We} {e o : Expr} {es : List Expr} {kws : List Keyword} {g gk : AF} {pos p apos pos' : Pos} {x m : Str} {k np : Nat} {fn C : Addr} {ps ks : List Str} {dvs : List V} {dds : List D} {F : FF} {arr : List (Nat × Nat)}
def mkLK (c : Nat) (F : FF) (n np nk : Nat) (arr : List (Nat × Nat)) (dds : List D) (l z : List D) : Sto → Res D := mkLG c (fun x => cK F n np nk arr dds (x :: l) z)
theorem se_makeLK0 {ci : Nat} (h : DefKw X.prog X.w X.K X.mg X.base k fn ps dvs F np ks arr) (hd : ∀ r G, Reps X.K X.mg r G dds dvs) (hr : Room (k + 1) X.A) (tk : Takes X W.w) (hc : X.mg (cName ci) = some (.ref C)) (M : Mk X.K C fn) (hg : Gl X x) (hm : X.mg x = some (.ref C)) (hk : SK X W kws gk)
    (hall : (backToKw pos (keywordEach kws X.env)).all (·.1.isSome) = true := by rfl) (hks : (backToKw pos (keywordEach kws X.env)).filterMap (·.1) = ks := by rfl)
    (hdb : (x == ("__debug__" : Str)) = false := by decide)
    (hpl : ((backTo pos (starEach [] X.env)).any (·.1) || (backToKw pos (keywordEach kws X.env)).any (·.1.isNone)) = false := by rfl) :
    SE X W (.Call (.Name x p) [] kws pos) (fCallK (mkLK ci F ps.length np ks.length arr dds) aNil gk) := by
  refine ⟨fun pins s σ H Q I ht => ?_⟩
  obtain ⟨w, sg, st, rfl, rm, rs, hp⟩ := ht
  refine wpAny_Call_Name_kw (ld_glob I hg hm ?_ hdb)
  refine PySem.W.callWith_KW0 (h₀ := X.base) I.ok.mod.kin M.kp hall (thn (hk.run pos pins s σ w.h (fun zs H3 => ∃ m3 z st3, m3.h = H3 ∧ Rel X.K X.mg m3 st3 ∧ Reps X.K X.mg m3.r m3.g z zs ∧ Post X.K X.mg W.w m3 σ (RD X.K X.mg) Q (mkLK ci F ps.length np ks.length arr dds [] z st3)) I
    ⟨w, sg, st, rfl, rm, rs, Post.bindc (x := gk sg st) hp fun m3 z zs st3 e3 r3 q3 hp3 => ⟨m3, z, st3, rfl, r3, q3, hp3⟩⟩) fun ws s2 hz => ?_) hpl
  obtain ⟨zs, H3, I3, rz, m3, z, st3, rfl, r3, q3, hp3⟩ := hz
  rw [hks]
  exact ⟨I3.kIn, run_makeK (us := []) hc M h hd hr tk I3 .nil rz r3 .nil q3 (mkLG_post (Fk := fun x => cK F ps.length np ks.length arr dds (x :: []) z) r3 hp3)⟩
end
/-! attributes as targets of a tuple -/
section
variable {X : Cx} {W : We} {e : Expr} {f : EF} {pos : Pos}
theorem fld_put {m : Hw} {st st4 : Sto} {ci i : Nat} {x d : D} {u v : V} {C : Addr} {mm : Str} (hc : X.mg (cName ci) = some (.ref C)) (hf : (cFlds ci)[i]? = some mm) (hnd : (cFlds ci).Nodup) (hlen : (cFlds ci).length < 1000) (hst : stFld ci i x d st = some st4) (q2 : Rep X.K X.mg m.r m.g x u) (r2 : Rel X.K X.mg m st) (q1 : Rep X.K X.mg m.r m.g d v) (hold : ∀ n l, x = .loc n → st[n]? = some (.ins ci l) → i < l.length) :
    ∃ a dx fs, u = .ref a ∧ m.h a = some (.ins C dx fs) ∧ fs.length < 1000 ∧ Ext m (m.put a (.ins C dx (putF mm v fs))) ∧ Rel X.K X.mg (m.put a (.ins C dx (putF mm v fs))) st4 := by
  unfold stFld at hst
  split at hst
  · rename_i n
    split at hst
    · rename_i c' l hl
      split at hst
      · rename_i hcc
        cases hst
        obtain ⟨rfl, hi⟩ := hcc
        have hlt := hold n l rfl hl
        cases q2 with
        | loc hr =>
          obtain ⟨C', dx, fs, k1, k2, k3, k4⟩ := r2.obj _ _ _ hr hl
          rw [hc] at k1
          cases k1
          have hlf : fs.length = l.length := by have := k4.length; simpa using this.symm
          have hll : l.length ≤ (cFlds c').length := by
            have z := congrArg List.length k3
            simp at z
            omega
          refine ⟨_, dx, fs, rfl, k2, by omega, Ext.put (List.mem_of_getElem? hr), r2.put hr ?_⟩
          rw [if_pos hlt]
          obtain ⟨z1, z2⟩ := putF_old (y := v) k3 (hnd.sublist (List.take_sublist _ _)) (take_at hf hlt)
          exact ⟨C, dx, _, hc, upd_same, by rw [z1]; simp, by rw [z2]; exact k4.set q1 i⟩
      · cases hst
    · cases hst
  · cases hst
def oldF (ci i : Nat) (x : D) (st : Sto) : Bool := match x with
  | .loc n => match st[n]? with
    | some (.ins c l) => decide (c = ci ∧ i < l.length)
    | _ => false
  | _ => false
theorem oldF_of {ci i : Nat} {x : D} {st : Sto} (h : oldF ci i x st = true) : ∀ n l, x = .loc n → st[n]? = some (.ins ci l) → i < l.length := fun n l hx hl => by
  subst hx
  have h2 : (match st[n]? with
    | some (.ins c l) => decide (c = ci ∧ i < l.length)
    | _ => false) = true := h
  rw [hl] at h2
  exact (of_decide_eq_true h2).2
def rFlds : List (Nat × Nat × EF) → List D → Sg → Sto → Res Unit
  | [], [], _, st => .ok () st
  | (c, i, fo) :: r, d :: ds, sg, st => (fo sg st).bind fun x st1 => if oldF c i x st1 = true then (match stFld c i x d st1 with
    | some st2 => rFlds r ds sg st2
    | none => .bad) else .bad
  | _, _, _, _ => .bad
inductive Flds (X : Cx) (W : We) : List Expr → List (Nat × Nat × EF) → Prop
  | nil : Flds X W [] []
  | cons {o : Expr} {m : Str} {ps : Pos} {fo : EF} {ci i : Nat} {C : Addr} {es : List Expr} {l : List (Nat × Nat × EF)} (hc : X.mg (cName ci) = some (.ref C)) (cl : Cls X.K C) (na : NoAttr X.K C m) (hf : (cFlds ci)[i]? = some m) (hnd : (cFlds ci).Nodup) (hlen : (cFlds ci).length < 1000) (ho : SE X W o fo)
      (hs : (assignEach (.Attribute o m ps :: es) X.env).map (·.2) = assign (.Attribute o m ps) X.env :: (assignEach es X.env).map (·.2)) (t : Flds X W es l) : Flds X W (.Attribute o m ps :: es) ((ci, i, fo) :: l)
def gFlds (X : Cx) (W : We) (l : List (Nat × Nat × EF)) : TGs := fun vs σ H Q => ∃ m sg st ds, m.h = H ∧ Rel X.K X.mg m st ∧ SgRep X.K X.mg W.e m sg σ ∧ Reps X.K X.mg m.r m.g ds vs ∧ Post X.K X.mg W.w m σ (fun _ (_ : Unit) (_ : Unit) => True) (fun _ H' => Q σ H') (rFlds l ds sg st)
theorem flds_pgs {es : List Expr} {l : List (Nat × Nat × EF)} (h : Flds X W es l) : PGs X es (gFlds X W l) := by
  induction h with
  | nil =>
    refine ⟨fun pins s σ H vs us Q I r hq => ?_⟩
    obtain ⟨m, sg, st, ds, rfl, rm, rs, q, hp⟩ := hq
    cases q with
    | nil =>
      cases r
      exact wpAny_pure ⟨σ, m.h, I, hp m () (Ext.refl _) rm trivial⟩
    | cons a b => exact False.elim hp
  | @cons o mm ps fo ci i C es l hc cl na hf hnd hlen ho hs t ih =>
    refine ⟨fun pins s σ H vs us Q I r hq => ?_⟩
    obtain ⟨m, sg, st, ds, rfl, rm, rs, q, hp⟩ := hq
    cases q with
    | nil => exact False.elim hp
    | @cons d v ds vs qd q =>
      cases r with
      | @cons _ u _ us r rr =>
        rw [hs]
        have hp' : Post X.K X.mg W.w m σ (fun _ (_ : Unit) (_ : Unit) => True) (fun _ H' => Q σ H') ((fo sg st).bind fun x st1 => if oldF ci i x st1 = true then (match stFld ci i x d st1 with
          | some st2 => rFlds l ds sg st2
          | none => .bad) else .bad) := hp
        refine PyProof.Rows.assignInOrder_cons ?_
        show wpAny _ _ (do let ov ← holding [u] (eval o X.env); standAt ps.atName; holding [u, ov] (setAttr ov mm u); release [u, ov] []) _ _ s
        refine wpAny_bind (wpAny_holding (thn (ho.run pins s σ m.h (fun x H1 => ∃ m1 y st1, m1.h = H1 ∧ Ext m m1 ∧ Rel X.K X.mg m1 st1 ∧ Rep X.K X.mg m1.r m1.g y x ∧ Post X.K X.mg W.w m1 σ (fun _ (_ : Unit) (_ : Unit) => True) (fun _ H' => Q σ H') (if oldF ci i y st1 = true then (match stFld ci i y d st1 with
          | some st2 => rFlds l ds sg st2
          | none => .bad) else .bad)) I ⟨m, sg, st, rfl, rm, rs, hp'.bindc fun m1 y x st1 e1 r1 q1 hp1 => ⟨m1, y, st1, rfl, e1, r1, q1, hp1⟩⟩) fun ov s1 hz => ?_))
        obtain ⟨x, H1, I1, rx, m1, y, st1, rfl, e1, r1, q1, hp1⟩ := hz
        split at hp1
        · rename_i hold
          split at hp1
          · rename_i st2 hst
            obtain ⟨a, dx, fs, rfl, ha, hl, e2, r2⟩ := fld_put hc hf hnd hlen hst q1 r1 (qd.mono e1) (oldF_of hold)
            obtain rfl : ov = Value.ref a := rx
            refine wpAny_bind (wpAny_standAt (wpAny_bind (wpAny_holding (setattr_ok I1 ha cl na hl r fun s2 I2 => ?_))))
            refine wpAny_release ?_
            exact ih.run pins s2 σ _ _ _ Q I2 rr ⟨_, sg, st2, ds, rfl, r2, (rs.mono e1).mono e2, (q.mono e1).mono e2, Post.mono hp1 e2⟩
          · exact False.elim hp1
        · exact False.elim hp1
@[simp] def sAsgF (l : List (Nat × Nat × EF)) (f : EF) : SF := fun sg st => (f sg st).flw sg fun d st1 => match d with
  | .tup ds => if ds.length = l.length then (rFlds l ds sg st1).flw sg fun _ st2 => .nx sg st2 else .bad
  | _ => .bad
theorem ss_asgF {es : List Expr} {k : Nat} {ps : Pos} {l : List (Nat × Nat × EF)} (hc : X.calm = true) (h : Flds X W es l) (he : SE X W e f) (hn : (assignEach es X.env).length = l.length := by rfl) (hst : (assignEach es X.env).findIdx? (·.1) = none := by rfl)
    (hs : swapsWithSole [.Tuple es k ps] e pos.line X.env = pure false := by rfl) (hw : swappedStores [.Tuple es k ps] e X.env = pure none := by rfl) (h1 : (assignEach [.Tuple es k ps] X.env).map (·.2) = [assign (.Tuple es k ps) X.env] := by rfl) : SS X W (.Assign [.Tuple es k ps] e pos) (sAsgF l f) :=
  ps_weak (ps_asg he (pg_tup hc (flds_pgs h) hn hst) hs hw h1) fun D σ H ⟨m, sg, st, e, rm, rs, hp⟩ => ⟨m, sg, st, e, rm, rs, flwc hp rs fun m1 y v st1 e1 r1 q1 hp1 => by
    split at hp1
    · rename_i ds
      split at hp1
      · rename_i hlen
        cases q1 with
        | tup t1 t2 =>
          refine ⟨_, _, rfl, sqT_mono r1.sub t1, by rw [← t2.length]; exact hlen, m1, sg, st1, ds, rfl, r1, rs.mono e1, t2, ?_⟩
          exact flwc (r := rFlds l ds sg st1) (R := fun _ _ _ => True) (β := Unit) (Q := fun _ H3 => D.nx σ H3) hp1 (rs.mono e1) fun m2 y2 v2 st2 e2 r2 q2 hp2 => hp2 m2 _ (Ext.refl _) r2 ((rs.mono e1).mono e2)
      · exact False.elim hp1
    · exact False.elim hp1⟩
end
end Sh
/-! Part ZS: dict comprehensions over a dict; sorted of a dict's keys -/
namespace Sh
open PySem L2 He
def putP (acc : List (Key × D)) (d : D) : Option (List (Key × D)) := match d with
  | .tup [k, v] => (dKey k).map fun k => putD acc k v
  | _ => none
def putsP : List D → List (Key × D) → Option (List (Key × D))
  | [], acc => some acc
  | d :: r, acc => match putP acc d with
    | some a => putsP r a
    | none => none
def pairE (fk fv : EF) : EF := fun sg st => (fk sg st).bind fun k st1 => (fv sg st1).bind fun v st2 => .ok (.tup [k, v]) st2
theorem putD_le (l : List (Key × D)) (k : Key) (d : D) : (putD l k d).length ≤ l.length + 1 := by
  unfold putD
  split <;> simp
theorem KRel.len {K : PySem.W.Frag} {mg : Str → Option Value} {r : List Addr} {G : Hp} {l : List (Key × D)} {vs : List (Key × V)} (h : KRel K mg r G l vs) : vs.length = l.length := by
  have := congrArg List.length h.to.1
  simpa using this
theorem KRel.mono {K : PySem.W.Frag} {mg : Str → Option Value} {m m' : Hw} {l : List (Key × D)} {vs : List (Key × V)} (h : KRel K mg m.r m.g l vs) (e : Ext m m') : KRel K mg m'.r m'.g l vs := by
  induction h with
  | nil => exact .nil
  | cons h t ih => exact .cons (h.mono e) ih
section
variable {X : Cx} {W : We}
theorem dc_ok {t : Tg} {ct : TF} {fk fv : EF} {ws : List Nat} {σ : St} {sg : Sg} {m0 : Hw} {J : It} {w : Wk} {st0 : Sto} {Qd : V → Hp → Prop} (hw : ∀ i ∈ tgSl t, i ∈ ws) (hlen : w.l.length ≤ 16777216) (it : ItOk X.K X.mg m0 J w.l w.ck) (r0 : Rel X.K X.mg m0 st0) (rs : SgRep X.K X.mg W.e m0 sg σ) (hne : ∀ z, W.e = some z → z.i ∉ ws)
    (R : List (Key × D) → Sto → Prop) (Dl : Addr) (hD : m0.h Dl = none) (start : ∃ ys st l, lcF w.ck t ct (pairE fk fv) (wipeD sg ws) w.l st0 = .ok ys st ∧ putsP ys [] = some l ∧ R l st)
    (fin : ∀ m1 l kvs st, Ext m0 m1 → m1.h Dl = some (.dK kvs) → Dl ∉ m1.r → m1.g Dl = none → Rel X.K X.mg m1 st → KRel X.K X.mg m1.r m1.g l kvs → R l st → Qd (.ref Dl) m1.h) :
    ∃ Wd : Nat → Nat → Hp → Prop, (∃ k, Wd 0 k (upd m0.h Dl (.dK []))) ∧ ∀ i k H, Wd i k H →
      (J.stop i H ∧ Qd (.ref Dl) H) ∨ (J.go i H ∧ ∃ Nx : Hp → Prop, (∀ H', Nx H' → ∃ k', k' < k ∧ Wd (i + 1) k' H') ∧ ∀ x H', J.yld i H x H' → gTg X.K t x (wipe σ ws) H' fun σ2 H2 => wipe σ2 ws = wipe σ ws ∧ (TOf X.K X.mg (WF W) RB ct) σ2 H2 fun b H3 =>
        if b = true then (TOf X.K X.mg (WF W) (RD X.K X.mg) fk) σ2 H3 fun y H4 => (TOf X.K X.mg (WF W) (RD X.K X.mg) fv) σ2 H4 fun z H5 => ∃ kvs k, y = kV k ∧ H5 Dl = some (.dK kvs) ∧ kvs.length < sizeLine ∧ Nx (upd H5 Dl (.dK (putK kvs k z))) else Nx H3) := by
  refine ⟨fun i k H => k = w.l.length - i ∧ i ≤ w.l.length ∧ ∃ m1 st1 acc kvs, m1.h = H ∧ Ext m0 m1 ∧ m1.h Dl = some (.dK kvs) ∧ Dl ∉ m1.r ∧ m1.g Dl = none ∧ Rel X.K X.mg m1 st1 ∧ KRel X.K X.mg m1.r m1.g acc kvs ∧ acc.length ≤ i ∧
    ∃ ys st l, lcF w.ck t ct (pairE fk fv) (wipeD sg ws) (w.l.drop i) st1 = .ok ys st ∧ putsP ys acc = some l ∧ R l st, ?_, ?_⟩
  · refine ⟨w.l.length, by simp, Nat.zero_le _, m0.put Dl (.dK []), st0, [], [], rfl, (Ext.refl m0).side hD, upd_same, r0.fresh hD, r0.gnone hD, r0.side (r0.fresh hD) (r0.gnone hD), .nil, Nat.zero_le _, ?_⟩
    simpa using start
  rintro i k H ⟨rfl, hi, m1, st1, acc, kvs, rfl, e1, d1, d2, d3, r1, q1, ha, ys, st, l, hl, hp, hR⟩
  have s1 : SgRep X.K X.mg W.e m1 (wipeD sg ws) (wipe σ ws) := wipe_rep (rs.mono e1) ws hne
  by_cases hlt : i < w.l.length
  · rw [List.drop_eq_getElem_cons hlt] at hl
    unfold lcF at hl
    split at hl
    · rename_i hck
      obtain ⟨_, hgo⟩ := it m1 st1 e1 r1 hck i
      obtain ⟨k1, k2⟩ := hgo w.l[i] (List.getElem?_eq_getElem hlt)
      refine .inr ⟨k1, fun H => ∃ m1 st1 acc kvs, m1.h = H ∧ Ext m0 m1 ∧ m1.h Dl = some (.dK kvs) ∧ Dl ∉ m1.r ∧ m1.g Dl = none ∧ Rel X.K X.mg m1 st1 ∧ KRel X.K X.mg m1.r m1.g acc kvs ∧ acc.length ≤ i + 1 ∧
        ∃ ys st l, lcF w.ck t ct (pairE fk fv) (wipeD sg ws) (w.l.drop (i + 1)) st1 = .ok ys st ∧ putsP ys acc = some l ∧ R l st, fun H' z => ⟨w.l.length - (i + 1), by omega, rfl, hlt, z⟩, fun y H' hy => ?_⟩
      obtain ⟨m2, rfl, e2, r2, q2⟩ := k2 y H' hy
      split at hl
      · rename_i sg2 hsg
        refine tg_of (ws := ws) r2 hsg q2 (s1.mono e2) fun σ' s' hws => ⟨?_, ?_⟩
        · rw [hws hw]
          exact wipe_wipe ws ws fun _ h => h
        · have f2 := e2.fr Dl _ d1 d2
          cases hc : ct sg2 st1 with
          | exc c o s => rw [hc] at hl; simp at hl
          | bad => rw [hc] at hl; simp at hl
          | ok b st2 =>
            rw [hc] at hl
            simp only [Res.noex, Res.bind] at hl
            refine ⟨m2, sg2, st1, rfl, r2, s', ?_⟩
            rw [hc]
            intro m3 b' e3 r3 hb
            cases hb
            have f3 := e3.fr Dl _ f2.1 f2.2.1
            cases b with
            | false =>
              rw [if_neg Bool.false_ne_true] at hl
              exact iteF ⟨m3, st2, acc, kvs, rfl, (e1.trans e2).trans e3, f3.1, f3.2.1, f3.2.2 (f2.2.2 d3), r3, (q1.mono e2).mono e3, by omega, ys, st, l, hl, hp, hR⟩
            | true =>
              rw [if_pos rfl] at hl
              refine iteT ?_
              rw [show pairE fk fv sg2 st2 = (fk sg2 st2).bind fun k st1 => (fv sg2 st1).bind fun v st2 => .ok (.tup [k, v]) st2 from rfl] at hl
              cases hf : fk sg2 st2 with
              | exc c o s => rw [hf] at hl; simp [Res.noex, Res.bind] at hl
              | bad => rw [hf] at hl; simp [Res.noex, Res.bind] at hl
              | ok dk st3 =>
                rw [hf] at hl
                simp only [Res.bind] at hl
                refine ⟨m3, sg2, st2, rfl, r3, s'.mono e3, ?_⟩
                rw [hf]
                intro m4 vk e4 r4 q4
                have f4 := e4.fr Dl _ f3.1 f3.2.1
                cases hv : fv sg2 st3 with
                | exc c o s => rw [hv] at hl; simp [Res.noex, Res.bind] at hl
                | bad => rw [hv] at hl; simp [Res.noex, Res.bind] at hl
                | ok dv st4 =>
                  rw [hv] at hl
                  simp only [Res.noex, Res.bind] at hl
                  refine ⟨m4, sg2, st3, rfl, r4, (s'.mono e3).mono e4, ?_⟩
                  rw [hv]
                  intro m5 v e5 r5 q5
                  have f5 := e5.fr Dl _ f4.1 f4.2.1
                  have q1' := (((q1.mono e2).mono e3).mono e4).mono e5
                  have hsz : kvs.length < sizeLine := by
                    rw [q1.len, sizeLine_eq]
                    omega
                  cases hr : lcF w.ck t ct (pairE fk fv) (wipeD sg ws) (w.l.drop (i + 1)) st4 with
                  | exc c o s => rw [hr] at hl; simp at hl
                  | bad => rw [hr] at hl; simp at hl
                  | ok ys2 st5 =>
                    rw [hr] at hl
                    simp only [Res.ok.injEq] at hl
                    obtain ⟨rfl, rfl⟩ := hl
                    unfold putsP putP at hp
                    dsimp only at hp
                    cases hk : dKey dk with
                    | none => rw [hk] at hp; simp at hp
                    | some k' =>
                      rw [hk] at hp
                      simp only [Option.map_some] at hp
                      obtain rfl := key_rep q4 hk
                      refine ⟨kvs, k', rfl, f5.1, hsz, m5.put Dl (.dK (putK kvs k' v)), st4, putD acc k' dv, _, rfl, ((((e1.trans e2).trans e3).trans e4).trans e5).side hD, upd_same, f5.2.1, f5.2.2 (f4.2.2 (f3.2.2 (f2.2.2 d3))), r5.side f5.2.1 (f5.2.2 (f4.2.2 (f3.2.2 (f2.2.2 d3)))), q1'.put q5, by have := putD_le acc k' dv; omega, ?_⟩
                      exact ⟨ys2, st5, l, hr, hp, hR⟩
      · cases hl
    · cases hl
  · have : i = w.l.length := by omega
    subst this
    rw [List.drop_length] at hl
    unfold lcF at hl
    split at hl
    · rename_i hck
      cases hl
      cases hp
      exact .inl ⟨(it m1 st1 e1 r1 hck _).1 (Nat.le_refl _), fin m1 acc kvs st1 e1 d1 d2 d3 r1 q1 hR⟩
    · cases hl
theorem dc_new {σ : St} {Q : VK} {m1 m2 : Hw} {l : List (Key × D)} {st1 : Sto} {Dl : Addr} {kvs : List (Key × V)} (hD : m1.h Dl = none) (e2 : Ext m1 m2) (h1 : m2.h Dl = some (.dK kvs)) (h2 : Dl ∉ m2.r) (h3 : m2.g Dl = none) (r2 : Rel X.K X.mg m2 st1) (q2 : KRel X.K X.mg m2.r m2.g l kvs) (hp : Post X.K X.mg W.w m1 σ (RD X.K X.mg) Q (.ok (.loc st1.length) (st1 ++ [.dict l]))) : Q (.ref Dl) m2.h := by
  have er : ∀ (n : Nat) (a : Addr), m2.r[n]? = some a → (m2.r ++ [Dl])[n]? = some a := fun n a z => by
    rw [List.getElem?_append_left (List.getElem?_eq_some_iff.mp z).1]; exact z
  have hn : (m2.r ++ [Dl])[st1.length]? = some Dl := by
    rw [← r2.len, List.getElem?_append_right (Nat.le_refl _)]
    simp
  refine hp ⟨m2.r ++ [Dl], m2.g, m2.h⟩ (.ref Dl) ?_ ?_ (.loc hn)
  · obtain ⟨t, ht⟩ := e2.pre
    refine ⟨⟨t ++ [Dl], by rw [ht, List.append_assoc]⟩, e2.g, fun a u q n => ?_⟩
    obtain ⟨k1, k2, k3⟩ := e2.fr a u q n
    refine ⟨k1, ?_, k3⟩
    have : a ≠ Dl := ne_of_none q hD
    show a ∉ m2.r ++ [Dl]
    simp [k2, this]
  · refine ⟨r2.sub, by simp [r2.len], ?_, fun a z => ?_, fun n a so e1 e2 => ?_⟩
    · show (m2.r ++ [Dl]).Nodup
      rw [List.nodup_append]
      refine ⟨r2.nd, by simp, fun a ha b hb e => ?_⟩
      have hb' : b = Dl := by simpa using hb
      subst e
      exact h2 (hb' ▸ ha)
    · have z' : a ∈ m2.r ++ [Dl] := z
      rcases List.mem_append.mp z' with z' | z'
      · exact r2.off a z'
      · have : a = Dl := by simpa using z'
        rw [this]; exact h3
    · have e1 : (m2.r ++ [Dl])[n]? = some a := e1
      by_cases hlt : n < m2.r.length
      · rw [List.getElem?_append_left hlt] at e1
        rw [List.getElem?_append_left (by rw [← r2.len]; exact hlt)] at e2
        exact (r2.obj n a so e1 e2).mono' er (fun _ _ z => z) fun u q => q
      · have hl := r2.len
        rw [List.getElem?_append_right (by omega)] at e1 e2
        have h0 : n - m2.r.length = 0 := by
          cases z : n - m2.r.length with
          | zero => rfl
          | succ k => rw [z] at e1; simp at e1
        have h0' : n - st1.length = 0 := by omega
        rw [h0] at e1; rw [h0'] at e2
        simp at e1 e2
        subst e1; subst e2
        exact ⟨kvs, h1, q2.to.1, Reps.mono' er (fun _ _ z => z) _ _ q2.to.2⟩
@[simp] noncomputable def fDcK (ws : List Nat) (fo : EF) (y : Wy) (t : Tg) (c : TF) (fk fv : EF) : EF := fun sg st => (lcLk ws fo y t c (pairE fk fv) sg st).bind fun ys st1 => match putsP ys [] with
  | some l => .ok (.loc st1.length) (st1 ++ [.dict l])
  | none => .bad
variable {t : Tg} {ct : TF} {fk fv f : EF} {ifs : List Expr} {scope : Scope} {own : List (Str × Nat)} {kx vx tg iter e : Expr} {pos apos cpos : Pos}
theorem tDcK_of {σ : St} {Q : VK} {m : Hw} {sg : Sg} {st : Sto} {ws : List Nat} {y : Wy} (hw : ∀ i ∈ tgSl t, i ∈ ws) (hne : ∀ z, W.e = some z → z.i ∉ ws) (rm : Rel X.K X.mg m st) (rs : SgRep X.K X.mg W.e m sg σ) (hp : Post X.K X.mg W.w m σ (RD X.K X.mg) Q (fDcK ws f y t ct fk fv sg st)) :
    ulTE X (tDc (y.ti (lkTE X (TOf X.K X.mg W (RD X.K X.mg) f))) (gTg X.K t) (TOf X.K X.mg (WF W) RB ct) (TOf X.K X.mg (WF W) (RD X.K X.mg) fk) (TOf X.K X.mg (WF W) (RD X.K X.mg) fv) ws) σ m.h Q := by
  unfold fDcK lcLk at hp
  rw [bind_assoc'] at hp
  refine y.ti_of ?_ lk_mono
  refine ⟨m, sg, st, rfl, rm, rs, hp.bindc fun m1 x v st1 e1 r1 q1 hp1 => ?_⟩
  split at hp1
  · rename_i n
    split at hp1
    · rename_i l hl
      split at hp1
      · rename_i hx
        cases q1 with
        | loc ra =>
          rename_i a
          obtain ⟨kvs, k1, k2, k3⟩ := r1.obj _ _ _ ra hl
          refine ⟨a, .dK kvs, rfl, k1, trivial, fun od hnf => ⟨a, od, kvs, rfl, upd_same, fun Dl hD => ?_⟩⟩
          have hn : n < st1.length := (List.getElem?_eq_some_iff.mp hl).1
          have am : a ∈ m1.r := List.mem_of_getElem? ra
          have e2 : Ext m1 (m1.put a (.frz od (.dK kvs))) := Ext.put am
          have r2 : Rel X.K X.mg (m1.put a (.frz od (.dK kvs))) (lockAt st1 n l od kvs) := r1.put ra ⟨upd_same, k2, k3⟩
          have ln : (lockAt st1 n l od kvs)[n]? = some (.lock l od kvs) := by unfold lockAt; simp [hn]
          have back : (lockAt st1 n l od kvs).set n (.dict l) = st1 := by
            unfold lockAt
            rw [List.set_set]
            have := (List.getElem?_eq_some_iff.mp hl).2
            rw [← this, List.set_getElem_self]
          have hs := Classical.choose_spec hx.2 od kvs
          generalize Classical.choose hx.2 = ys at hs hp1
          dsimp only [Res.bind] at hp1
          split at hp1
          · rename_i ld hld
            have hda : Dl ≠ a := fun z => by
              subst z
              have : upd m1.h Dl (.frz od (.dK kvs)) Dl = none := hD
              rw [upd_same] at this
              cases this
            have hD1 : m1.h Dl = none := by
              have : upd m1.h a (.frz od (.dK kvs)) Dl = none := hD
              rwa [upd_ne hda] at this
            refine dc_ok (w := ⟨y.sel l, lkck n l od kvs⟩) (Qd := fun x H1 => ∃ d od u, H1 d = some (.frz od u) ∧ (∀ o' u', X.H_0 d ≠ some (.frz o' u')) ∧ Q x (upd H1 d u)) hw hx.1 (y.ok (e2.at_ ra)) r2 (rs.mono (e1.trans e2)) hne (fun l' st' => l' = ld ∧ st' = lockAt st1 n l od kvs) Dl hD ⟨ys, _, ld, hs, hld, rfl, rfl⟩ fun m3 l' vs st' e3 h1 h2 h3 r3 q3 hR => ?_
            obtain ⟨rfl, rfl⟩ := hR
            have ra3 : m3.r[n]? = some a := e3.at_ (e2.at_ ra)
            obtain ⟨j1, j2, j3⟩ := r3.obj n a _ ra3 ln
            have e4 : Ext m3 (m3.put a (.dK kvs)) := Ext.put (List.mem_of_getElem? ra3)
            have r4 : Rel X.K X.mg (m3.put a (.dK kvs)) st1 := by
              have := r3.put (so := .dict l) ra3 ⟨kvs, upd_same, j2, j3⟩
              rwa [back] at this
            refine ⟨a, od, .dK kvs, j1, hnf, ?_⟩
            refine dc_new (m2 := m3.put a (.dK kvs)) hD1 ((e2.trans e3).trans e4) ?_ h2 h3 r4 (q3.mono e4) hp1
            show upd m3.h a (.dK kvs) Dl = _
            rw [upd_ne hda]
            exact h1
          · exact False.elim hp1
      · exact False.elim hp1
    · exact False.elim hp1
  · exact False.elim hp1
theorem se_dcK {y : Wy} (hc : X.calm = true) (hN : X.N.Nodup) (hi : PI X tg iter (y.ti (lkTE X (TOf X.K X.mg W (RD X.K X.mg) f)))) (ok : BlkOk X.N X.env.scope scope own) (hw : ∀ i ∈ tgSl t, i ∈ own.map (·.2))
    (hg : ∀ (s : Shared) (H : Hp) (C : Addr) (cl : List (Str × Addr)) (fp : List Addr), PG (X.blk s H scope (compEnvC scope cl C X.env) fp) tg (gTg X.K t)) (ht : ∀ (s : Shared) (H : Hp) (C : Addr) (cl : List (Str × Addr)) (fp : List Addr), STs (X.blk s H scope (compEnvC scope cl C X.env) fp) (WF W) ifs ct)
    (hk : ∀ (s : Shared) (H : Hp) (C : Addr) (cl : List (Str × Addr)) (fp : List Addr), SE (X.blk s H scope (compEnvC scope cl C X.env) fp) (WF W) kx fk)
    (he : ∀ (s : Shared) (H : Hp) (C : Addr) (cl : List (Str × Addr)) (fp : List Addr), SE (X.blk s H scope (compEnvC scope cl C X.env) fp) (WF W) vx fv) (hfs : ∀ x, foldedSetIterable iter X.env x = pure x)
    (hne : ∀ z, W.e = some z → z.i ∉ own.map (·.2) := by first | (intro _ h; cases h; done) | (intro _ h; cases h; decide)) : SE X W (.DictComp kx vx [⟨tg, iter, ifs, 0⟩] scope pos) (fDcK (own.map (·.2)) f y t ct fk fv) :=
  pe_weak (pe_unlockAt (pe_dc (tt := TOf X.K X.mg (WF W) RB ct) (tk := TOf X.K X.mg (WF W) (RD X.K X.mg) fk) (tv := TOf X.K X.mg (WF W) (RD X.K X.mg) fv) hc hN hi ok hg ht hk he hfs)) fun σ H Q ⟨m, sg, st, e, rm, rs, hp⟩ => by
    subst e
    exact tDcK_of hw hne rm rs hp
/-! sorted(d): the keys of a dict, sorted -/
open Classical in
noncomputable def bSortD : List D → Sto → Res D := fun l st => match l with
  | [.loc n] => match st[n]? with
    | some (.dict l) => if srtOk (l.map fun kv => kyD kv.1) then .ok (.lst (srtD (l.map fun kv => kyD kv.1))) st else .bad
    | _ => .bad
  | _ => .bad
theorem keys_reps {K : PySem.W.Frag} {mg : Str → Option Value} {r : List Addr} {G : Hp} : ∀ {l : List (Key × D)} {kvs : List (Key × V)}, kvs.map (·.1) = l.map (·.1) → Reps K mg r G (l.map fun kv => kyD kv.1) (kvs.map fun kv => kV kv.1)
  | [], [], _ => .nil
  | [], _ :: _, h => by simp at h
  | _ :: _, [], h => by simp at h
  | (k, d) :: l, (k', v) :: kvs, h => by
    simp at h
    obtain ⟨h1, h2⟩ := h
    subst h1
    exact .cons (kyD_rep k') (keys_reps h2)
theorem cal_sortD (hc : X.calm = true) (hu : X.A.units + 64 < cLine) : CalS X W (.builtin "sorted") bSortD := by
  intro pins s σ m st l vs us Q I rv rm ra hp
  unfold bSortD at hp
  split at hp
  · rename_i n
    obtain ⟨v, rfl, hv⟩ := reps1 ra
    split at hp
    · rename_i l hl
      split at hp
      · rename_i ho
        obtain ⟨a, kvs, rfl, k1, k2⟩ := dict_at rm hv hl
        rw [Vals.ref1 rv]
        obtain ⟨⟨ds, h1⟩, h2, h3, h4, h5⟩ := ho
        obtain ⟨_, hpy⟩ := toPys_map h1
        obtain ⟨z, lo, kvu, rk, hd⟩ := (show ObjOk X.prog X.w m.h s.heap a (.dK kvs) from I.hok a _ k1)
        obtain ⟨ep, hat⟩ := hd.dictAt
        have hlk : kvs.length = kvu.length := Paired.length rk
        have q : Reps X.K X.mg m.r m.g (l.map fun kv => kyD kv.1) (kvs.map fun kv => kV kv.1) := keys_reps k2.to.1
        refine sorted_col (β := D) (enc := pyD) (P := fun us s1 => Vals (kvs.map fun kv => kV kv.1) us ∧ ∃ h' tk, s1 = { s with heap := h', toks := tk } ∧ ∀ b o, s.heap.get? b = some o → h'.get? b = some o) (PyProof.Rows.args_sorted1 _) (fun E' Q' hq => ?_) fun us s1 hP => ?_
        · refine PySem.W.kdu_collect (PySem.W.kdl_dict (knd := mixKind X.prog X.w) (kvs := kvu) (ep := ep) lo) (I.ok.hd hc) hat (by rw [← hlk]; exact z) fun h' tk acc hk hacc => hq _ _ ⟨?_, h', tk, rfl, hk⟩
          have el : acc.toList.length = acc.size := by simp
          refine vals_of_at (by rw [List.length_map, el, hacc.1, hlk]) fun j x w h1 h2 => ?_
          obtain ⟨k, y, hky, hi⟩ := hacc.2 j w (by rw [← Array.getElem?_toList]; exact h2)
          have e1 : (kvs.map (·.1))[j]? = some k := by
            rw [KV.keys rk, List.getElem?_map, hky] <;> rfl
          have e2 : (kvs.map fun kv => kV kv.1)[j]? = some (kV k) := by
            have e3 : (kvs.map fun kv => kV kv.1) = (kvs.map (·.1)).map kV := by rw [List.map_map] <;> rfl
            rw [e3, List.getElem?_map, e1] <;> rfl
          rw [e2] at h1
          cases h1
          exact keyIs_rel hi
        · obtain ⟨rvs, h', tk, rfl, hk⟩ := hP
          have I1 : Inv X pins σ m.h { s with heap := h', toks := tk } := I.kept (t' := tk) hk
          refine ⟨fun (u : Value) (d : D) => ∃ v, RelV v u ∧ Rep X.K X.mg m.r m.g d v, _, each_of q rvs, each_reads I1 rm q rvs hpy, h2, h3, by rw [sizeLine_eq]; omega, fun x hx => by have := h4 x hx; omega, fun h2 out ep k2 hat hE => ?_⟩
          obtain ⟨vs', q', rv'⟩ := each_back hE
          have hlen : vs'.length ≤ sizeLine := by
            rw [← q'.length]
            show (srtD _).length ≤ _
            rw [srt_length, sizeLine_eq]; omega
          refine ⟨.ref h'.objs.size, upd m.h h'.objs.size (.lst vs'), I1.laid (t' := tk) k2 (Nat.le_refl _) ⟨hlen, out, ep, rv', hat⟩, rfl, ?_⟩
          exact hp.lay (α := D) rm (fun p hn => .lst upd_same (q'.mono (Ext.lay rm hn))) _ (I1.hok.fresh (Nat.le_refl _))
      · exact False.elim hp
    · exact False.elim hp
  · exact False.elim hp
end
end Sh
/-! Part ZT: d.get(k); list(d); list(range(a, b)); several clauses without a name -/
namespace Sh
open PySem L2 He
section
variable {X : Cx} {W : We} {a b e o : Expr} {f fa fb fo fe : EF} {pos apos cpos p p2 pos2 : Pos}
@[simp] def fGet1 (fo fe : EF) : EF := fun sg st => (fo sg st).bind fun x st1 => if isDict x st1 = true then ((fe sg st1).bind fun k st2 => dGet x k .non st2) else .bad
theorem se_get1 (hu : X.A.units + 1 < cLine) (ho : SE X W o fo) (he : SE X W e fe) (m1 : M1 X o "get" apos e cpos) : SE X W (.Call (.Attribute o "get" apos) [e] [] cpos) (fGet1 fo fe) :=
  pe_weak (pe_dget1 hu ho he m1) fun σ H Q ⟨m, sg, st, em, rm, rs, hp⟩ => ⟨m, sg, st, em, rm, rs, hp.bindc fun m1 x v st1 e1 r1 q1 hp1 => by
    split at hp1
    · rename_i hd
      obtain ⟨a, rfl, ia⟩ := isDict_at r1 q1 hd
      refine ⟨a, rfl, ia, m1, sg, st1, rfl, r1, rs.mono e1, hp1.bindc fun m2 k kv st2 e2 r2 q2 hp2 => ?_⟩
      unfold dGet at hp2
      split at hp2
      · rename_i n k' hk
        split at hp2
        · rename_i l hl
          obtain ⟨a', kvs, ea, h2, h3⟩ := dict_rd r2 (q1.mono e2) hl
          cases ea
          have := key_rep q2 hk
          subst this
          rcases h3.get k' with ⟨g1, g2⟩ | ⟨d, v, g1, g2, g3⟩
          · rw [g1] at hp2
            exact ⟨none, by rw [← g2]; exact DGet.kR h2, hp2.okc r2 .non⟩
          · rw [g1] at hp2
            exact ⟨some v, by rw [← g2]; exact DGet.kR h2, hp2.okc r2 g3⟩
        · exact False.elim hp2
      · exact False.elim hp2
    · exact False.elim hp1⟩
/-- list(d): the keys -/
def bListK : List D → Sto → Res D
  | [.loc n], st => match st[n]? with
    | some (.dict l) => .ok (.lst (l.map fun kv => kyD kv.1)) st
    | _ => .bad
  | _, _ => .bad
def bListKN : List D → Sto → Res D
  | [.loc n], st => match st[n]? with
    | some (.dict l) => .ok (.loc st.length) (st ++ [.lst (l.map fun kv => kyD kv.1)])
    | _ => .bad
  | _, _ => .bad
theorem fits_listK : FitsL X W rListD bListK := by
  intro m st σ l vs Q rm ra hp
  unfold bListK at hp
  split at hp
  · rename_i n
    obtain ⟨v, rfl, h1⟩ := reps1 ra
    split at hp
    · rename_i l hl
      obtain ⟨a, kvs, rfl, k1, k2⟩ := dict_at rm h1 hl
      refine ⟨a, kvs, rfl, k1, fun q hq => ?_⟩
      exact hp.lay (α := D) (R' := RD X.K X.mg) (o := .lst (kvs.map fun kv => kV kv.1)) rm (fun q hq => .lst upd_same ((keys_reps k2.to.1).mono (Ext.lay rm hq))) q hq
    · exact False.elim hp
  · exact False.elim hp
theorem fits_listKN : FitsL X W rListD bListKN := by
  intro m st σ l vs Q rm ra hp
  unfold bListKN at hp
  split at hp
  · rename_i n
    obtain ⟨v, rfl, h1⟩ := reps1 ra
    split at hp
    · rename_i l hl
      obtain ⟨a, kvs, rfl, k1, k2⟩ := dict_at rm h1 hl
      refine ⟨a, kvs, rfl, k1, fun q hq => ?_⟩
      exact post_new hp rm (keys_reps k2.to.1) q hq
    · exact False.elim hp
  · exact False.elim hp
theorem se_listRg2 (hc : X.calm = true) (hg : Gl X "list") (hm : X.mg "list" = none) (hg2 : Gl X "range") (hm2 : X.mg "range" = none) (ha : SE X W a fa) (hb : SE X W b fb) (na : starEach [a, b] X.env = (false, eval a X.env) :: starEach [b] X.env := by rfl)
    (nb : starEach [b] X.env = (false, eval b X.env) :: starEach [] X.env := by rfl) (hp : (backTo pos2 (starEach [b] X.env)).any (·.1) = false := by rfl)
    (nc : starEach [.Call (.Name "range" p2) [a, b] [] pos2] X.env = (false, eval (.Call (.Name "range" p2) [a, b] [] pos2) X.env) :: starEach [] X.env := by rfl) : SE X W (.Call (.Name "list" p) [.Call (.Name "range" p2) [a, b] [] pos2] [] pos) (fRg2 kRgL fa fb) :=
  pe_weak (pe_listRg hc hg hm (prg_2 hg2 hm2 ha hb na nb hp) nc) fun _ _ _ h => tRg2_of krg_l h
theorem se_listRgN2 (hc : X.calm = true) (hg : Gl X "list") (hm : X.mg "list" = none) (hg2 : Gl X "range") (hm2 : X.mg "range" = none) (ha : SE X W a fa) (hb : SE X W b fb) (na : starEach [a, b] X.env = (false, eval a X.env) :: starEach [b] X.env := by rfl)
    (nb : starEach [b] X.env = (false, eval b X.env) :: starEach [] X.env := by rfl) (hp : (backTo pos2 (starEach [b] X.env)).any (·.1) = false := by rfl)
    (nc : starEach [.Call (.Name "range" p2) [a, b] [] pos2] X.env = (false, eval (.Call (.Name "range" p2) [a, b] [] pos2) X.env) :: starEach [] X.env := by rfl) : SE X W (.Call (.Name "list" p) [.Call (.Name "range" p2) [a, b] [] pos2] [] pos) (fRg2 kRgLN fa fb) :=
  pe_weak (pe_listRg hc hg hm (prg_2 hg2 hm2 ha hb na nb hp) nc) fun _ _ _ h => tRg2_of krg_n h
end
/-! try: several clauses, none with a name -/
structure Co where
  hc : Nat → Option Bool
  su : SF
@[simp] def Flw.noexc : Flw → Flw
  | .exc _ _ _ _ => .bad
  | r => r
def pickO : List Co → Nat → Option D → Sg → Sto → Flw
  | [], c, o, sg, st => .exc c o sg st
  | k :: r, c, o, sg, st => match k.hc c with
    | some true => (k.su sg st).noexc
    | some false => pickO r c o sg st
    | none => .bad
def sTryO (g : SF) (l : List Co) : SF := fun sg st => match g sg st with
  | .exc c o sg1 st1 => pickO l c o sg1 st1
  | r => r
def WN0 : We := ⟨fun _ _ _ _ => False, none⟩
theorem noexc_ok {K : PySem.W.Frag} {mg : Str → Option Value} {w : WX} {m1 : Hw} {D : Ends} {z : Flw} (h : PostS K mg ⟨w, none⟩ m1 D z.noexc) : PostS K mg WN0 m1 D z := by
  cases z with
  | nx sg st => exact h
  | brk sg st => exact h
  | cnt sg st => exact h
  | ret d st => exact h
  | exc c o sg st => exact False.elim h
  | bad => exact False.elim h
def Co.z (X : Cx) (k : Co) (cv : Value) : Value × (Addr → Value → Option Addr → TS) := (cv, fun a cls d D σ H => SOf X.K X.mg WN0 k.su D σ H)
inductive CosOk (X : Cx) : List ExceptHandler → List Co → List (Value × (Addr → Value → Option Addr → TS)) → Prop
  | nil : CosOk X [] [] []
  | cons {xn : Str} {cv : Value} {k : Co} {b₀ : Stmt} {suite : List Stmt} {np pos' : Pos} {hds : List ExceptHandler} {l : List Co} {z : List (Value × (Addr → Value → Option Addr → TS))} (hnm : Names X xn cv)
      (hh : ∀ c b C, k.hc c = some b → X.mg (xName c) = some (.ref C) → PySem.W.exmOne X.K (.ref C) cv = some b)
      (hsu : ∀ (a : Addr) (oe : Obj) (pn : List (Addr × Obj)), SSs (X.suite a ((a, oe) :: pn)) WN0 (b₀ :: suite) k.su)
      (r : CosOk X hds l z) : CosOk X (.ExceptHandler (some (.Name xn np)) none (b₀ :: suite) pos' :: hds) (k :: l) (k.z X cv :: z)
section
variable {X : Cx} {body : List Stmt} {h₀ : ExceptHandler} {hds : List ExceptHandler} {l : List Co} {z : List (Value × (Addr → Value → Option Addr → TS))} {pos : Pos} {gs : SF} {w : WX}
theorem CosOk.ofs {hds : List ExceptHandler} (h : CosOk X hds l z) : HdsOk X hds z := by
  induction h with
  | nil => exact .nil
  | cons hnm hh hsu r ih => exact .cons hnm (fun a oe cls d pn hz hv => hsu a oe pn) ih
theorem CosOk.wish {hds : List ExceptHandler} (h : CosOk X hds l z) {m : Hw} {D : Ends} {c : Nat} {o : Option Sh.D} {sg : Sg} {st : Sto} (hp : PostS X.K X.mg ⟨w, none⟩ m D (pickO l c o sg st)) :
    ∀ m' σ' cls dx, Ext m m' → Rel X.K X.mg m' st → SgRep X.K X.mg none m' sg σ' → XRep X.K X.mg m' c o cls dx → wMany X.K w D z cls dx σ' m'.h := by
  induction h with
  | nil => exact hp
  | @cons xn cv k b₀ suite np pos' hds l z hnm hh hsu r ih =>
    intro m' σ' cls dx e' r' s' x'
    have x2 := x'
    obtain ⟨C, k1, k2, k3⟩ := x'
    subst k2
    unfold pickO at hp
    cases hq : k.hc c with
    | none => rw [hq] at hp; exact False.elim hp
    | some b =>
      rw [hq] at hp
      refine ⟨b, hh c b C hq k1, fun hbt a ha => ?_, fun hbf => ?_⟩
      · subst hbt
        dsimp only at hp
        exact ⟨m', sg, st, rfl, r', s', noexc_ok (PostS.mono hp e')⟩
      · subst hbf
        exact ih hp m' σ' (.ref C) dx e' r' s' x2
theorem ss_tryO (hs : X.stack = X.env :: X.outer) (hf : X.env.frame = some X.env.locals) (tk : Takes X w)
    (hb : ∀ (W' : WX) (pn : List (Addr × Obj)) (xe : Value → Shared → Prop), Takes (X.tr pn xe) W' → PassesOwn (model X.prog X.w) X.A X.env xe → SSs (X.tr pn xe) ⟨W', none⟩ body gs) (hh : CosOk X (h₀ :: hds) l z) :
    SS X ⟨w, none⟩ (.Try body (h₀ :: hds) [] [] pos) (sTryO gs l) :=
  ps_weak (ps_try_many (tb := fun W' => SOf X.K X.mg ⟨W', none⟩ gs) hs hf tk hb hh.ofs) fun D σ H ⟨m, sg, st, e, rm, rs, hp⟩ => ⟨m, sg, st, e, rm, rs, by
    unfold sTryO at hp
    cases hg : gs sg st with
    | exc c o sg1 st1 =>
      rw [hg] at hp
      exact hh.wish hp
    | nx sg1 st1 => rw [hg] at hp; exact hp
    | ret d st1 => rw [hg] at hp; exact hp
    | brk sg1 st1 => rw [hg] at hp; exact hp
    | cnt sg1 st1 => rw [hg] at hp; exact hp
    | bad => rw [hg] at hp; exact hp⟩
end
/-! a dict that is walked is locked; the suite may change other things of the store -/
def Flw.sto (s : Sto) : Flw → Sto
  | .nx _ st => st
  | .ret _ st => st
  | .brk _ st => st
  | .cnt _ st => st
  | _ => s
open Classical in
noncomputable def sLock2 (fo : EF) (g : SF) : SF := fun sg st => match fo sg st with
  | .ok (.loc n) _ => match st[n]? with
    | some (.dict l) => if h : ∃ w : Flw, (w.sto st)[n]? = some (.dict l) ∧ ∀ o kvs, g sg (lockAt st n l o kvs) = w.atSt (lockAt (w.sto st) n l o kvs) then (Classical.choose h).atSt ((Classical.choose h).sto st) else .bad
    | _ => .bad
  | _ => .bad
theorem sLock2_eq {fo : EF} {g : SF} {sg : Sg} {st st' st2 : Sto} {n : Nat} {l : List (Key × D)} {w : Flw} (e : fo sg st = .ok (.loc n) st') (hn : st[n]? = some (.dict l)) (hw : w.sto st = st2) (h2 : st2[n]? = some (.dict l)) (h : ∀ o kvs, g sg (lockAt st n l o kvs) = w.atSt (lockAt st2 n l o kvs)) : sLock2 fo g sg st = w.atSt st2 := by
  subst hw
  unfold sLock2
  rw [e]
  dsimp only
  rw [hn]
  dsimp only
  have hx : ∃ w : Flw, (w.sto st)[n]? = some (.dict l) ∧ ∀ o kvs, g sg (lockAt st n l o kvs) = w.atSt (lockAt (w.sto st) n l o kvs) := ⟨w, h2, h⟩
  rw [dif_pos hx]
  let o : Obj := { cls := .type "dict", dict := none, data := .dict #[] 0, slots := #[] }
  obtain ⟨b2, a⟩ := Classical.choose_spec hx
  generalize Classical.choose hx = c at a b2
  have z := (a o []).symm.trans (h o [])
  have key : ∀ {x y : Sto}, x[n]? = some (.dict l) → y[n]? = some (.dict l) → lockAt x n l o [] = lockAt y n l o [] → x = y := fun {x y} hx hy hz => by
    have back : ∀ {s : Sto}, s[n]? = some (.dict l) → (lockAt s n l o []).set n (.dict l) = s := fun {s} hs => by
      unfold lockAt
      rw [List.set_set]
      have := (List.getElem?_eq_some_iff.mp hs).2
      rw [← this, List.set_getElem_self]
    rw [← back hx, hz, back hy]
  cases c with
  | nx sg1 s1 =>
    cases w with
    | nx sg2 s2 =>
      simp only [Flw.atSt, Flw.sto, Flw.nx.injEq] at z ⊢
      exact ⟨z.1, key b2 h2 z.2⟩
    | _ => simp only [Flw.atSt] at z; cases z
  | ret d1 s1 =>
    cases w with
    | ret d2 s2 =>
      simp only [Flw.atSt, Flw.sto, Flw.ret.injEq] at z ⊢
      exact ⟨z.1, key b2 h2 z.2⟩
    | _ => simp only [Flw.atSt] at z; cases z
  | brk sg1 s1 =>
    cases w with
    | brk sg2 s2 =>
      simp only [Flw.atSt, Flw.sto, Flw.brk.injEq] at z ⊢
      exact ⟨z.1, key b2 h2 z.2⟩
    | _ => simp only [Flw.atSt] at z; cases z
  | cnt sg1 s1 =>
    cases w with
    | cnt sg2 s2 =>
      simp only [Flw.atSt, Flw.sto, Flw.cnt.injEq] at z ⊢
      exact ⟨z.1, key b2 h2 z.2⟩
    | _ => simp only [Flw.atSt] at z; cases z
  | exc _ _ _ _ => cases w <;> simp only [Flw.atSt] at z ⊢ <;> cases z
  | bad => cases w <;> simp only [Flw.atSt] at z ⊢ <;> cases z
section
variable {X : Cx} {W : We} {s : Stmt}
theorem ss_lock2 {fo : EF} {g : SF} (h : SS X W s g) : SS X W s (sLock2 fo g) :=
  ps_weak (ps_lock h) fun D σ H ⟨m, sg, st, e, rm, rs, hp⟩ => by
    subst e
    unfold sLock2 at hp
    split at hp
    · rename_i n st' hf
      split at hp
      · rename_i l hl
        split at hp
        · rename_i hx
          have hn : n < st.length := (List.getElem?_eq_some_iff.mp hl).1
          have hr : n < m.r.length := by rw [rm.len]; exact hn
          have ra : m.r[n]? = some m.r[n] := List.getElem?_eq_getElem hr
          obtain ⟨kvs, k1, k2, k3⟩ := rm.obj n m.r[n] _ ra hl
          generalize m.r[n] = a at ra k1
          have am : a ∈ m.r := List.mem_of_getElem? ra
          refine ⟨a, .dK kvs, k1, trivial, fun od => ?_⟩
          obtain ⟨b2, w⟩ := Classical.choose_spec hx
          have w := w od kvs
          have e1 : Ext m (m.put a (.frz od (.dK kvs))) := Ext.put am
          have r1 : Rel X.K X.mg (m.put a (.frz od (.dK kvs))) (lockAt st n l od kvs) := rm.put ra ⟨upd_same, k2, k3⟩
          refine ⟨m.put a (.frz od (.dK kvs)), sg, lockAt st n l od kvs, rfl, r1, rs.mono e1, ?_⟩
          rw [w]
          generalize Classical.choose hx = c at hp b2
          have key : ∀ (s2 : Sto), s2[n]? = some (.dict l) → ∀ m2 : Hw, Ext (m.put a (.frz od (.dK kvs))) m2 → Rel X.K X.mg m2 (lockAt s2 n l od kvs) → m2.h a = some (.frz od (.dK kvs)) ∧ Ext m (m2.put a (.dK kvs)) ∧ Ext m2 (m2.put a (.dK kvs)) ∧ Rel X.K X.mg (m2.put a (.dK kvs)) s2 := fun s2 h2 m2 e2 r2 => by
            have hn2 : n < s2.length := (List.getElem?_eq_some_iff.mp h2).1
            have ln : (lockAt s2 n l od kvs)[n]? = some (.lock l od kvs) := by unfold lockAt; simp [hn2]
            have back : (lockAt s2 n l od kvs).set n (.dict l) = s2 := by
              unfold lockAt
              rw [List.set_set]
              have := (List.getElem?_eq_some_iff.mp h2).2
              rw [← this, List.set_getElem_self]
            have ra2 : m2.r[n]? = some a := e2.at_ (e1.at_ ra)
            obtain ⟨j1, j2, j3⟩ := r2.obj n a _ ra2 ln
            have e3 : Ext m2 (m2.put a (.dK kvs)) := Ext.put (List.mem_of_getElem? ra2)
            refine ⟨j1, (e1.trans e2).trans e3, e3, ?_⟩
            have := r2.put (so := .dict l) ra2 ⟨kvs, upd_same, j2, j3⟩
            rwa [back] at this
          cases c with
          | nx sg2 s2 => exact fun m2 σ2 e2 r2 z2 => let ⟨a1, a2, a3, a4⟩ := key s2 b2 m2 e2 r2; ⟨a1, hp _ σ2 a2 a4 (z2.mono a3)⟩
          | ret d s2 => exact fun m2 v e2 r2 q2 => let ⟨a1, a2, a3, a4⟩ := key s2 b2 m2 e2 r2; ⟨a1, hp _ v a2 a4 (q2.mono a3)⟩
          | brk sg2 s2 => exact fun m2 σ2 e2 r2 z2 => let ⟨a1, a2, a3, a4⟩ := key s2 b2 m2 e2 r2; ⟨a1, hp _ σ2 a2 a4 (z2.mono a3)⟩
          | cnt sg2 s2 => exact fun m2 σ2 e2 r2 z2 => let ⟨a1, a2, a3, a4⟩ := key s2 b2 m2 e2 r2; ⟨a1, hp _ σ2 a2 a4 (z2.mono a3)⟩
          | exc _ _ _ _ => exact False.elim hp
          | bad => exact False.elim hp
        · exact False.elim hp
      · exact False.elim hp
    · exact False.elim hp
end
end Sh
/-! Part ZU: a text times a number -/
namespace L2
open PySem PySem.Spec PyProof.Rows
def repS (a : Str) (n : Nat) : Str := ⟨(List.replicate n a.cps).foldl (· ++ ·) #[]⟩
theorem repS_one (a : Str) : repS a 1 = a := by
  unfold repS
  show (⟨#[] ++ a.cps⟩ : Str) = a
  rw [Array.empty_append]
def rRepS : R2 := fun x y H Q => ∃ a k, x = .str a ∧ y = .int k ∧ 1 ≤ k ∧ k ≤ 1000 ∧ 1 ≤ a.length ∧ a.length ≤ 1000 ∧ Q (.str (repS a k.toNat)) H
theorem op_repS {X : Cx} : OpR X (binaryOp .Mult) rRepS := by
  intro pins s σ H x y v u Q I rx ry h
  obtain ⟨a, k, rfl, rfl, h1, h2, h3, h4, q⟩ := h
  obtain ⟨t, rfl⟩ := rx
  obtain ⟨t', rfl⟩ := ry
  have p63 : (2 : Int) ^ 63 = 9223372036854775808 := by decide
  have tl : Builtin.Str.tooLong (a.length * k.toNat) = false := by
    have hle : a.length * k.toNat ≤ sizeLine := by
      rw [sizeLine_eq]
      exact Nat.le_trans (Nat.mul_le_mul h4 (show k.toNat ≤ 1000 by omega)) (by decide)
    unfold Builtin.Str.tooLong
    exact decide_eq_false (by omega)
  refine PySem.P.mul_str ?_ (fun _ _ => ?_) (fun _ _ => ?_) ?_
  · rw [Bool.or_eq_false_iff, decide_eq_false_iff_not, decide_eq_false_iff_not, p63]
    omega
  · rw [p63]
    have : (1000 : Int) ≤ (9223372036854775808 - 1) / k := by
      refine Int.le_ediv_of_mul_le (by omega) ?_
      omega
    omega
  · exact tl
  · rw [if_neg (by omega)]
    by_cases c : k = 1
    · subst c
      have e : ((1 : Int) == 1 || a.length == 0) = true := rfl
      rw [if_pos e]
      refine ⟨.str a, H, I, ⟨t, rfl⟩, ?_⟩
      rw [show (1 : Int).toNat = 1 from rfl, repS_one] at q
      exact q
    · have e : (k == 1 || a.length == 0) = false := by
        rw [Bool.or_eq_false_iff]
        exact ⟨by simp [c], by simp; omega⟩
      rw [e, if_neg Bool.false_ne_true]
      exact ⟨fits_reps tl, .str (repS a k.toNat), H, I.tok _, ⟨s.toks, rfl⟩, q⟩
end L2
namespace Sh
open PySem L2 He
section
variable {X : Cx} {W : We}
def dRepS : D → D → Sto → Res D
  | .str a, .int k, st => if 1 ≤ k ∧ k ≤ 1000 ∧ 1 ≤ a.length ∧ a.length ≤ 1000 then .ok (.str (repS a k.toNat)) st else .bad
  | _, _, _ => .bad
theorem fits_repS : Fits2 X W rRepS dRepS := by
  intro m st σ x y v w Q rm ra rb hp
  unfold dRepS at hp
  split at hp
  · cases ra; cases rb
    split at hp
    · rename_i h
      exact ⟨_, _, rfl, rfl, h.1, h.2.1, h.2.2.1, h.2.2.2, hp.okc rm (.str _)⟩
    · exact False.elim hp
  · exact False.elim hp
@[simp] theorem ev_dRepS (a : Str) (k : Int) (st : Sto) : dRepS (.str a) (.int k) st = if 1 ≤ k ∧ k ≤ 1000 ∧ 1 ≤ a.length ∧ a.length ≤ 1000 then .ok (.str (repS a k.toNat)) st else .bad := rfl
end
end Sh
/-! Part ZV: a list compared with the empty list, whatever its items -/
namespace PySem.SeqAt
open AutoSeq1 (wpAny_loadPart')
open MeetsSeq MeetsSeq2 MeetsSeq3 SeqRoads2
section
variable {prog : Program} {w : World}
theorem zv_eq_diff (l b : Addr) (items items2 : Array Value) (n n2 : Nat) (dd dd2 : Option Addr) (sl sl2 : Array (Option Value)) (hsz : items.size ≠ items2.size) :
    MeetsIn prog w (Builtin.«list.__eq__» ⟨[.ref l, .ref b], []⟩)
      (fun A R s => s.heap.get? l = some { cls := .type "list", dict := dd, data := .seq items n, slots := sl } ∧ s.heap.get? b = some { cls := .type "list", dict := dd2, data := .seq items2 n2, slots := sl2 } ∧
        R (.ok (.ret (.bool false))) s) := by
  intro A R s h
  obtain ⟨hp, g, d, tk, os⟩ := s; obtain ⟨hl, hb, h⟩ := h
  have f3 := AutoSeq1.sub_list_list
  have hne : (items.size != items2.size) = true := by simp [hsz]
  wp_walk using wpAny_loadPart' hl, wpAny_loadPart' hb
  have e : (CmpOp.Eq == CmpOp.NotEq) = false := by decide
  rw [← e] at h
  simpa using h
theorem zv_ne_diff (l b : Addr) (items items2 : Array Value) (n n2 : Nat) (dd dd2 : Option Addr) (sl sl2 : Array (Option Value)) (hsz : items.size ≠ items2.size) :
    MeetsIn prog w (Builtin.«list.__ne__» ⟨[.ref l, .ref b], []⟩)
      (fun A R s => s.heap.get? l = some { cls := .type "list", dict := dd, data := .seq items n, slots := sl } ∧ s.heap.get? b = some { cls := .type "list", dict := dd2, data := .seq items2 n2, slots := sl2 } ∧
        R (.ok (.ret (.bool true))) s) := by
  intro A R s h
  obtain ⟨hp, g, d, tk, os⟩ := s; obtain ⟨hl, hb, h⟩ := h
  have f3 := AutoSeq1.sub_list_list
  have hne : (items.size != items2.size) = true := by simp [hsz]
  wp_walk using wpAny_loadPart' hl, wpAny_loadPart' hb
  simpa using h
theorem zv_rc_diff {A : Around} {s : Shared} {l b : Addr} {items items2 : Array Value} (hl : s.heap.IsList l items) (hb : s.heap.IsList b items2) (hsz : items.size ≠ items2.size) (hu : A.units < cLine)
    (E Q : Value → Shared → Prop) (h : Q (.bool false) s) : wpAny (model prog w) A (richCompare .Eq (.ref l) (.ref b)) Q E s := by
  obtain ⟨⟨cls, dd, data, sl⟩, ho, hc, n, hd⟩ := id hl
  obtain ⟨⟨cls2, dd2, data2, sl2⟩, ho2, hc2, n2, hd2⟩ := id hb
  simp only at hc hd hc2 hd2
  subst hc hd hc2 hd2
  have ta : s.TypeIs (.ref l) "list" := ⟨_, ho, rfl⟩
  have tb : s.TypeIs (.ref b) "list" := ⟨_, ho2, rfl⟩
  exact wpAny_richCompare_same_room (op := .Eq) ta tb F.slot_list_eq (call_meetsIn F.slot_list_eq ta F.entry_list_eq (F.args_list_eq_2 _ _) (zv_eq_diff l b items items2 n n2 dd dd2 sl sl2 hsz)
    ⟨ho, ho2, show Value.bool false ≠ Value.notImplemented ∧ Q (.bool false) s from ⟨(fun x => nomatch x), h⟩⟩) hu
theorem zv_rn_diff {A : Around} {s : Shared} {l b : Addr} {items items2 : Array Value} (hl : s.heap.IsList l items) (hb : s.heap.IsList b items2) (hsz : items.size ≠ items2.size) (hu : A.units < cLine)
    (E Q : Value → Shared → Prop) (h : Q (.bool true) s) : wpAny (model prog w) A (richCompare .NotEq (.ref l) (.ref b)) Q E s := by
  obtain ⟨⟨cls, dd, data, sl⟩, ho, hc, n, hd⟩ := id hl
  obtain ⟨⟨cls2, dd2, data2, sl2⟩, ho2, hc2, n2, hd2⟩ := id hb
  simp only at hc hd hc2 hd2
  subst hc hd hc2 hd2
  have ta : s.TypeIs (.ref l) "list" := ⟨_, ho, rfl⟩
  have tb : s.TypeIs (.ref b) "list" := ⟨_, ho2, rfl⟩
  exact wpAny_richCompare_same_room (op := .NotEq) ta tb F.slot_list_ne (call_meetsIn F.slot_list_ne ta F.entry_list_ne (F.args_list_ne_2 _ _) (zv_ne_diff l b items items2 n n2 dd dd2 sl sl2 hsz)
    ⟨ho, ho2, show Value.bool true ≠ Value.notImplemented ∧ Q (.bool true) s from ⟨(fun x => nomatch x), h⟩⟩) hu
end
end PySem.SeqAt
namespace L2
open PySem PySem.Spec PyProof.Rows
section
variable {X : Cx}
def rEqE (K : PySem.W.Frag) (ne : Bool) : R2 := fun x y H Q => ∃ a b xs, x = .ref a ∧ y = .ref b ∧ SqL K H a xs ∧ SqL K H b [] ∧ (xs = [] → ne = false) ∧ Q (.bl (xs.isEmpty != ne)) H
theorem op_eqE (hu : X.A.units + 64 < cLine) : OpR X (compareOp .Eq) (rEqE X.K false) := by
  intro pins s σ H x y v u Q I rx ry h
  obtain ⟨a, b, xs, rfl, rfl, ha, hb, _, q⟩ := h
  cases (show v = Value.ref a from rx)
  cases (show u = Value.ref b from ry)
  obtain ⟨us, r1, p1, _⟩ := I.list ha
  obtain ⟨ws, r2, p2, _⟩ := I.list hb
  have e2 : ws = [] := by cases r2; rfl
  subst e2
  cases xs with
  | nil =>
    cases r1
    refine SeqAt.rcP_lists (e := fun _ => true) p1.isList p2.isList rfl (by omega) (fun j h1 h2 => absurd h1 (Nat.not_lt_zero j)) _ _ ⟨.bl true, H, I, rfl, q⟩
  | cons z zs =>
    cases r1 with
    | cons rz rzs =>
      refine SeqAt.zv_rc_diff p1.isList p2.isList (by simp) (by omega) _ _ ⟨.bl false, H, I, rfl, q⟩
theorem op_neE (hu : X.A.units + 64 < cLine) : OpR X (compareOp .NotEq) (rEqE X.K true) := by
  intro pins s σ H x y v u Q I rx ry h
  obtain ⟨a, b, xs, rfl, rfl, ha, hb, hne, q⟩ := h
  cases (show v = Value.ref a from rx)
  cases (show u = Value.ref b from ry)
  obtain ⟨us, r1, p1, _⟩ := I.list ha
  obtain ⟨ws, r2, p2, _⟩ := I.list hb
  have e2 : ws = [] := by cases r2; rfl
  subst e2
  cases xs with
  | nil => cases (hne rfl)
  | cons z zs =>
    cases r1 with
    | cons rz rzs =>
      refine SeqAt.zv_rn_diff p1.isList p2.isList (by simp) (by omega) _ _ ⟨.bl true, H, I, rfl, q⟩
end
end L2
namespace Sh
open PySem L2 He
section
variable {X : Cx} {W : We}
/-- x == [], whatever the items -/
def dEqE (x y : D) (st : Sto) : Res D := match lstOf x st, lstOf y st with
  | some l, some [] => .ok (.bl l.isEmpty) st
  | _, _ => .bad
theorem fits_eqE : Fits2 X W (rEqE X.K false) dEqE := by
  intro m st σ x y v w Q rm ra rb hp
  unfold dEqE at hp
  split at hp
  · rename_i l h1 h2
    obtain ⟨p, vs, rfl, k1, k2⟩ := lst_of rm ra h1
    obtain ⟨q, ws, rfl, k3, k4⟩ := lst_of rm rb h2
    cases k4
    refine ⟨p, q, vs, rfl, rfl, k1, k3, fun _ => rfl, ?_⟩
    have e : vs.isEmpty = l.isEmpty := by
      cases k2 with
      | nil => rfl
      | cons a b => rfl
    rw [e]
    have z := hp.okc (v := .bl l.isEmpty) rm (.bl _)
    cases hb : l.isEmpty <;> rw [hb] at z <;> exact z
  · exact False.elim hp
end
end Sh
/-! Part ZW: d.get(k) where k may be None -/
namespace L2
open PySem PySem.Spec PyProof.Rows
section
variable {X : Cx} {pins : List (Addr × Obj)} {σ : St} {H : Hp} {s : Shared} {a : Addr} {kvs : List (Key × V)} {A : Around} {E : Value → Shared → Prop}
theorem d_getNone {Q : Value → Shared → Prop} (I : Inv X pins σ H s) (e : Rd H a (.dK kvs)) (h : ∀ s', Inv X pins σ H s' → Q .none s') : wpAny (model X.prog X.w) A (call (.builtin "dict.get") [.ref a, .none]) Q E s := by
  obtain ⟨_, hd, vs, _, dd⟩ := dk_rd I.hok e
  obtain ⟨f, hm, hf⟩ := none_map dd
  refine call_meetsIn PySem.F.slot_dict_get dd.typeIs PySem.F.entry_dict_get (PySem.F.args_dict_get_2 _ _) (meets_dict_get (noneKind X.prog X.w) a (show (noneKind X.prog X.w).is none .none = true from rfl) hd) ⟨f, hm, ?_⟩
  rw [hf]
  exact h _ (I.tok _)
end
def tDGetN (td ty : TE) : TE := fun σ H Q => td σ H fun x H1 => ∃ a, x = .ref a ∧ IsD H1 a ∧ ty σ H1 fun y H2 => (∃ o, DGet H2 a y o ∧ Q (o.getD .non) H2) ∨ ∃ kvs, y = .non ∧ Rd H2 a (.dK kvs) ∧ Q .non H2
section
variable {X : Cx} {o e : Expr} {apos cpos : Pos} {td ty : TE}
theorem pe_dgetN (hu : X.A.units + 1 < cLine) (ho : PE X o td) (he : PE X e ty) (m : M1 X o "get" apos e cpos) : PE X (.Call (.Attribute o "get" apos) [e] [] cpos) (tDGetN td ty) := by
  refine ⟨fun pins s σ H Q I h => ?_⟩
  refine wpAny_Call_method m.base m.few m.line PySem.F.plainAttrs_dict PySem.F.slot_dict_get PySem.F.type_dict_get (thn (ho.run pins s σ H _ I h) fun u s1 ⟨x, H1, I1, rx, a, ex, d, q1⟩ => ?_)
  subst ex
  obtain rfl : u = Value.ref a := rx
  obtain ⟨t1, t2, _⟩ := isD_at I1 d
  refine ⟨t1, t2, ?_⟩
  rw [m.trees]
  refine Calls.callWith_builtin rfl (Calls.evalArgs_plain (Calls.spliced_cons (thn (he.run pins s1 σ H1 _ I1 q1) fun iv s2 ⟨y, H2, I2, ry, q2⟩ => Calls.spliced_nil ?_)))
  rcases q2 with ⟨ov, g, q2⟩ | ⟨kvs, ey, g, q2⟩
  · exact d_get1 hu I2 g ry fun w' s3 I3 rw' => ⟨_, H2, I3, rw', q2⟩
  · subst ey
    obtain rfl : iv = Value.none := ry
    exact d_getNone I2 g fun s3 I3 => ⟨.non, H2, I3, rfl, q2⟩
end
end L2
namespace Sh
open PySem L2 He
section
variable {X : Cx} {W : We} {e o : Expr} {fo fe : EF} {apos cpos : Pos}
def isNon : D → Bool
  | .non => true
  | _ => false
def noneGet (x : D) (st : Sto) : Res D := match x with
  | .loc n => match kvS st[n]? with
    | some _ => .ok .non st
    | none => .bad
  | _ => .bad
def dGetN (x k : D) (st : Sto) : Res D := if isNon k = true then noneGet x st else dGet x k .non st
@[simp] theorem ev_dGetN_non (n : Nat) (st : Sto) : dGetN (.loc n) .non st = match kvS st[n]? with
      | some _ => .ok .non st
      | none => .bad := rfl
@[simp] theorem ev_dGetN_str (x : D) (k : Str) (st : Sto) : dGetN x (.str k) st = dGet x (.str k) .non st := rfl
@[simp] theorem ev_dGetN_int (x : D) (k : Int) (st : Sto) : dGetN x (.int k) st = dGet x (.int k) .non st := rfl
@[simp] def fGetN (fo fe : EF) : EF := fun sg st => (fo sg st).bind fun x st1 => if isDict x st1 = true then ((fe sg st1).bind fun k st2 => dGetN x k st2) else .bad
theorem se_getN (hu : X.A.units + 1 < cLine) (ho : SE X W o fo) (he : SE X W e fe) (m1 : M1 X o "get" apos e cpos) : SE X W (.Call (.Attribute o "get" apos) [e] [] cpos) (fGetN fo fe) :=
  pe_weak (pe_dgetN hu ho he m1) fun σ H Q ⟨m, sg, st, em, rm, rs, hp⟩ => ⟨m, sg, st, em, rm, rs, hp.bindc fun m1 x v st1 e1 r1 q1 hp1 => by
    split at hp1
    · rename_i hd
      obtain ⟨a, rfl, ia⟩ := isDict_at r1 q1 hd
      refine ⟨a, rfl, ia, m1, sg, st1, rfl, r1, rs.mono e1, hp1.bindc fun m2 k kv st2 e2 r2 q2 hp2 => ?_⟩
      unfold dGetN at hp2
      split at hp2
      · rename_i hk0
        have hk1 : k = .non := by cases k <;> first | rfl | cases hk0
        subst hk1
        cases q2
        right
        unfold noneGet at hp2
        split at hp2
        · rename_i n
          split at hp2
          · rename_i l hl
            obtain ⟨a', kvs, ea, h2, h3⟩ := dict_rd r2 (q1.mono e2) hl
            cases ea
            exact ⟨kvs, rfl, h2, hp2.okc r2 .non⟩
          · exact False.elim hp2
        · exact False.elim hp2
      · left
        unfold dGet at hp2
        split at hp2
        · rename_i n k' hk
          split at hp2
          · rename_i l hl
            obtain ⟨a', kvs, ea, h2, h3⟩ := dict_rd r2 (q1.mono e2) hl
            cases ea
            have := key_rep q2 hk
            subst this
            rcases h3.get k' with ⟨g1, g2⟩ | ⟨d, v, g1, g2, g3⟩
            · rw [g1] at hp2
              exact ⟨none, by rw [← g2]; exact DGet.kR h2, hp2.okc r2 .non⟩
            · rw [g1] at hp2
              exact ⟨some v, by rw [← g2]; exact DGet.kR h2, hp2.okc r2 g3⟩
          · exact False.elim hp2
        · exact False.elim hp2
    · exact False.elim hp1⟩
end
end Sh
/-! Part ZX: a list unlike the empty list, whatever its items -/
namespace Sh
open PySem L2 He
section
variable {X : Cx} {W : We}

def rNeA (K : PySem.W.Frag) : R2 := fun x y H Q => rEqE K true x y H Q ∨ rNeP K x y H Q
theorem op_neA (hu : X.A.units + 64 < cLine) : OpR X (compareOp .NotEq) (rNeA X.K) := by
  intro pins s σ H x y v u Q I rx ry h
  rcases h with h | h
  · exact op_neE hu _ _ _ _ _ _ _ _ _ I rx ry h
  · exact op_neP hu _ _ _ _ _ _ _ _ _ I rx ry h
/-- x != [], whatever the items -/
def dNeE (x y : D) (st : Sto) : Res D := match lstOf x st, lstOf y st with
  | some (_ :: _), some [] => .ok (.bl true) st
  | _, _ => dNe x y st
theorem fits_neE : Fits2 X W (rNeA X.K) dNeE := by
  intro m st σ x y v w Q rm ra rb hp
  unfold dNeE at hp
  split at hp
  · rename_i a l h1 h2
    left
    obtain ⟨p, vs, rfl, k1, k2⟩ := lst_of rm ra h1
    obtain ⟨q, ws, rfl, k3, k4⟩ := lst_of rm rb h2
    cases k4
    cases k2 with
    | cons b c => exact ⟨p, q, _, rfl, rfl, k1, k3, fun z => (by cases z), hp.okc (v := .bl true) rm (.bl _)⟩
  · exact .inr (fits_ne _ _ _ _ _ _ _ _ rm ra rb hp)
end
end Sh
/-! Part ZY: tuples of flat data and dicts, all of them equal -/
namespace L2
open PySem PySem.Spec PyProof.Rows
section
variable {X : Cx}
def rEqT (K : PySem.W.Frag) : R2 := fun x y H Q => ∃ a b xs ys n, x = .ref a ∧ y = .ref b ∧ SqT K H a xs ∧ SqT K H b ys ∧ n ≤ 60 ∧ Paired (EqV K H n) xs ys ∧ Q (.bl true) H
theorem op_eqT (hu : X.A.units + 64 < cLine) : OpR X (compareOp .Eq) (rEqT X.K) := by
  intro pins s σ H x y v u Q I rx ry h
  obtain ⟨a, b, xs, ys, n, rfl, rfl, ha, hb, hn, hp, q⟩ := h
  cases (show v = Value.ref a from rx)
  cases (show u = Value.ref b from ry)
  obtain ⟨us, r1, p1, _⟩ := I.tuple ha
  obtain ⟨ws, r2, p2, _⟩ := I.tuple hb
  have hsz : us.toArray.size = ws.toArray.size := by
    rw [List.size_toArray, List.size_toArray, ← r1.length, ← r2.length]
    exact Paired.length hp
  refine SeqAt.rcIn_tuples (e := fun _ => true) p1 p2 (by omega) (fun j h1 h2 => ?_) ?_
  · have k : SeqAt.EqP X.prog X.w X.A.in1 s us.toArray[j] ws.toArray[j] true := by
      have k := items_run (eqV_run I n X.A.in1 (by show X.A.units + 1 + n < cLine; omega)) hp r1 r2 j (by simpa using h1) (by simpa using h2)
      simpa using k
    exact fun E Q hq => k E Q hq
  · have e : ((List.range (min us.toArray.size ws.toArray.size)).all fun _ => true) = true := List.all_eq_true.mpr fun _ _ => rfl
    rw [e, hsz]
    have e2 : (ws.toArray.size == ws.toArray.size) = true := by simp
    rw [e2]
    exact ⟨.bl true, H, I, rfl, q⟩
end
end L2
namespace Sh
open PySem L2 He
/-- alike: flat and the same, or dicts of the store with the same content -/
def eqIt (st : Sto) (x y : D) : Prop := (x = y ∧ dFlat x = true) ∨ ∃ n m l, x = .loc n ∧ y = .loc m ∧ st[n]? = some (.dict l) ∧ st[m]? = some (.dict l) ∧ (l.map (·.1)).Nodup ∧ ∀ kv ∈ l, dFlat kv.2 = true
def eqIts (st : Sto) : List D → List D → Prop
  | [], [] => True
  | x :: r, y :: q => eqIt st x y ∧ eqIts st r q
  | _, _ => False
open Classical in
/-- x == y, two tuples that are alike -/
noncomputable def dEqT (x y : D) (st : Sto) : Res D := match x, y with
  | .tup xs, .tup ys => if eqIts st xs ys then .ok (.bl true) st else .bad
  | _, _ => .bad
theorem dEqT_ok {xs ys : List D} {st : Sto} (h : eqIts st xs ys) : dEqT (.tup xs) (.tup ys) st = .ok (.bl true) st := by
  unfold dEqT
  dsimp only
  rw [if_pos h]
section
variable {X : Cx} {W : We}
theorem flat_rep2 {K : PySem.W.Frag} {mg : Str → Option Value} {r : List Addr} {G : Hp} {x : D} {v w : V} (h : dFlat x = true) (a : Rep K mg r G x v) (b : Rep K mg r G x w) : v = w ∧ flatB v = true := by
  cases x with
  | non => cases a; cases b; exact ⟨rfl, rfl⟩
  | bl c => cases a; cases b; exact ⟨rfl, rfl⟩
  | int i => cases a; cases b; exact ⟨rfl, rfl⟩
  | str s => cases a; cases b; exact ⟨rfl, rfl⟩
  | _ => simp [dFlat] at h
theorem dict_eqs {K : PySem.W.Frag} {mg : Str → Option Value} {r : List Addr} {G H : Hp} : ∀ {l : List (Key × D)} {ks ls : List (Key × V)}, (l.map (·.1)).Nodup → (∀ kv ∈ l, dFlat kv.2 = true) → ks.map (·.1) = l.map (·.1) → Reps K mg r G (l.map (·.2)) (ks.map (·.2)) → ls.map (·.1) = l.map (·.1) → Reps K mg r G (l.map (·.2)) (ls.map (·.2)) → ∀ p ∈ ks, ∃ u, valV ls p.1 = some u ∧ EqV K H 1 p.2 u
  | [], ks, ls, _, _, e1, _, _, _, p, hp => by
    have : ks = [] := by simpa using e1
    rw [this] at hp
    cases hp
  | kv :: l, [], ls, _, _, e1, _, _, _, p, hp => by cases hp
  | kv :: l, k :: ks, [], _, _, _, _, e2, _, p, hp => by simp at e2
  | kv :: l, k :: ks, z :: ls, nd, fl, e1, r1, e2, r2, p, hp => by
    rw [List.map_cons, List.nodup_cons] at nd
    rw [List.map_cons, List.map_cons] at e1 e2
    obtain ⟨e1a, e1b⟩ := List.cons.inj e1
    obtain ⟨e2a, e2b⟩ := List.cons.inj e2
    rw [List.map_cons, List.map_cons] at r1 r2
    cases r1 with
    | cons a1 a2 =>
      cases r2 with
      | cons b1 b2 =>
        rcases List.mem_cons.mp hp with rfl | hp
        · obtain ⟨q, f⟩ := flat_rep2 (fl kv List.mem_cons_self) a1 b1
          refine ⟨z.2, ?_, .inl ⟨q, f⟩⟩
          unfold valV
          rw [List.find?_cons, decide_eq_true (e2a.trans e1a.symm)]
          rfl
        · obtain ⟨u, h1, h2⟩ := dict_eqs (H := H) nd.2 (fun x hx => fl x (List.mem_cons_of_mem _ hx)) e1b a2 e2b b2 p hp
          refine ⟨u, ?_, h2⟩
          have hne : z.1 ≠ p.1 := fun e => nd.1 (by
            have : p.1 ∈ ks.map (·.1) := List.mem_map.mpr ⟨p, hp, rfl⟩
            rw [e1b] at this
            rw [← e2a, e]
            exact this)
          unfold valV at h1 ⊢
          rw [List.find?_cons, decide_eq_false hne]
          exact h1
theorem its_eq {m : Hw} {st : Sto} (rm : Rel X.K X.mg m st) : ∀ {xs ys : List D} {vs ws : List V}, eqIts st xs ys → Reps X.K X.mg m.r m.g xs vs → Reps X.K X.mg m.r m.g ys ws → Paired (EqV X.K m.h 2) vs ws
  | [], [], _, _, _, a, b => by cases a; cases b; exact .nil
  | [], y :: q, _, _, h, _, _ => h.elim
  | x :: r, [], _, _, h, _, _ => h.elim
  | x :: r, y :: q, _, _, h, a, b => by
    cases a with
    | cons a1 a2 =>
      cases b with
      | cons b1 b2 =>
        refine .cons ?_ (its_eq rm h.2 a2 b2)
        rcases h.1 with ⟨e, f⟩ | ⟨n, k, l, e1, e2, h1, h2, nd, fl⟩
        · subst e
          exact .inl (flat_rep2 f a1 b1)
        · subst e1; subst e2
          cases a1 with
          | loc p1 =>
            cases b1 with
            | loc p2 =>
              obtain ⟨ks, g1, g2, g3⟩ := (show ∃ kvs, m.h _ = some (.dK kvs) ∧ kvs.map (·.1) = l.map (·.1) ∧ Reps X.K X.mg m.r m.g (l.map (·.2)) (kvs.map (·.2)) from rm.obj n _ _ p1 h1)
              obtain ⟨ls, g4, g5, g6⟩ := (show ∃ kvs, m.h _ = some (.dK kvs) ∧ kvs.map (·.1) = l.map (·.1) ∧ Reps X.K X.mg m.r m.g (l.map (·.2)) (kvs.map (·.2)) from rm.obj k _ _ p2 h2)
              refine .inr (.inr (.inr ⟨_, _, ks, ls, rfl, rfl, g1, g4, ?_, dict_eqs nd fl g2 g3 g5 g6⟩))
              rw [← List.length_map (f := fun p : Key × V => p.1), g2, ← g5, List.length_map]
theorem fits_eqT : Fits2 X W (rEqT X.K) dEqT := by
  intro m st σ x y v w Q rm ra rb hp
  unfold dEqT at hp
  split at hp
  · rename_i xs ys
    by_cases c : eqIts st xs ys
    · rw [if_pos c] at hp
      cases ra with
      | tup a1 a2 =>
        cases rb with
        | tup b1 b2 =>
          exact ⟨_, _, _, _, 2, rfl, rfl, sqT_mono rm.sub a1, sqT_mono rm.sub b1, by omega, its_eq rm c a2 b2, hp.okc (v := .bl true) rm (.bl _)⟩
    · rw [if_neg c] at hp
      exact False.elim hp
  · exact False.elim hp
end
end Sh
/-! Part ZZ: a tuple's [::-1] -/
namespace L2
open PySem PySem.Spec PyProof.Rows HT
section
variable {prog : Program} {w : World} {A : Around} {E : Value → Shared → Prop} {s : Shared}
theorem sliceApplied_back {sl : Addr} {vl vu vs : Value} {n : Nat} {Q : Int × Int × Nat → Shared → Prop} (hs : s.heap.IsSliceOf sl vl vu vs) (pl : IsPart vl none) (pu : IsPart vu none) (ps : IsPart vs (some (-1)))
    (h : Q ((n : Int) - 1, -1, n) s) : wpAny (model prog w) A (Builtin.Slice.sliceApplied (.ref sl) (pure (n : Int))) Q E s := by
  obtain ⟨os, hos, hcs, hds⟩ := id hs
  unfold Builtin.Slice.sliceApplied Builtin.Slice.sliceFields
  refine wpAny_bind (wpAny_bind (wpAny_field hos hds (x := vl) rfl (wpAny_bind (wpAny_field hos hds (x := vu) rfl (wpAny_bind (wpAny_field hos hds (x := vs) rfl (wpAny_pure ?_)))))))
  refine wpAny_bind (slicePart_ ps ?_)
  show wpAny _ _ (if ((-1 : Int) == 0) = true then _ else _) _ _ s
  rw [if_neg (by decide)]
  refine wpAny_bind (slicePart_ pl (wpAny_bind (slicePart_ pu (wpAny_bind (wpAny_pure ?_)))))
  show wpAny _ _ (match Builtin.Slice.sliceAdjust none none (-1) (n : Int) with | (lo, hi) => pure (lo, (-1 : Int), Builtin.Slice.slicePlaces lo hi (-1))) _ _ s
  have e : Builtin.Slice.sliceAdjust none none (-1) (n : Int) = ((n : Int) - 1, -1) := rfl
  rw [e]
  show wpAny _ _ (pure ((n : Int) - 1, (-1 : Int), Builtin.Slice.slicePlaces ((n : Int) - 1) (-1) (-1))) _ _ s
  have e2 : Builtin.Slice.slicePlaces ((n : Int) - 1) (-1) (-1) = n := by
    unfold Builtin.Slice.slicePlaces
    rw [if_neg (by decide)]
    by_cases c : (n : Int) - 1 > -1
    · rw [if_pos c, show (- -1 : Int) = 1 by decide, Int.ediv_one]
      omega
    · rw [if_neg c]
      omega
  rw [e2]
  exact wpAny_pure h
theorem pick_back (xs : Array Value) : ((List.range xs.size).filterMap fun (m : Nat) => xs[(((xs.size : Int) - 1) + (m : Int) * -1).toNat]?).toArray = xs.toList.reverse.toArray := by
  have e : (List.range xs.size).filterMap (fun (m : Nat) => xs[(((xs.size : Int) - 1) + (m : Int) * -1).toNat]?) = ((List.range xs.size).map fun k => xs.size - 1 - k).filterMap (xs[·]?) := by
    rw [List.filterMap_map]
    congr 1
    funext k
    have : (((xs.size : Int) - 1) + (k : Int) * -1).toNat = xs.size - 1 - k := by omega
    show xs[(((xs.size : Int) - 1) + (k : Int) * -1).toNat]? = xs[xs.size - 1 - k]?
    rw [this]
  rw [e, PySem.W.krv_range, List.filterMap_reverse, PySem.W.krv_all]
theorem getItem_tuple_back {t sl : Addr} {items : Array Value} {vl vu vs : Value} {Q : Value → Shared → Prop} (ht : IsTup s.heap t items) (hs : s.heap.IsSliceOf sl vl vu vs) (pl : IsPart vl none) (pu : IsPart vu none) (ps : IsPart vs (some (-1)))
    (h : Q (.ref s.heap.objs.size) { s with heap := s.heap.push { cls := .type "tuple", data := .seq items.toList.reverse.toArray } })
    (hsz : items.size ≤ sizeLine) : wpAny (model prog w) A (getItem (.ref t) (.ref sl)) Q E s := by
  have htake : sizeOk (.seq items.toList.reverse.toArray) := by
    show items.toList.reverse.toArray.size ≤ sizeLine
    rw [List.size_toArray, List.length_reverse, Array.length_toList]
    exact hsz
  obtain ⟨os, hos, hcs, hds⟩ := id hs
  have hTs : s.TypeIs (.ref sl) "slice" := ⟨os, hos, hcs⟩
  unfold getItem
  try with_reducible refine wpAny_holding ?_
  first | refine wpAny_bind (wpAny_pure ?_) | skip
  refine wpAny_bind (wpAny_sequenceKey ht.typeIs (by decide) ?_)
  refine wpAny_bind (wpAny_callSpecial?_slot (name := Str.ofString "__getitem__") ht.typeIs PyProof.Rows.slot_tuple_getitem
    (wpAny_call_entry PyProof.Rows.slot_tuple_getitem ht.typeIs entry_tuple_getitem ?_ (args_tuple_getitem _ _)))
  show wpAny _ _ (Builtin.Tuple.tupleItemsOf (.ref t) >>= _) _ _ s
  refine wpAny_bind (tupleItemsOf_ ht ?_)
  refine wpAny_bind (wpAny_typeOf hTs ?_)
  rw [if_pos (by decide)]
  refine wpAny_bind (sliceApplied_back hs pl pu ps ?_)
  have hno : ¬ ((((items.size : Int) - 1) == 0 && (-1 : Int) == 1 && items.size == items.size) = true) := by
    rw [show ((-1 : Int) == 1) = false from rfl]
    simp
  show wpAny _ _ (if (((items.size : Int) - 1) == 0 && (-1 : Int) == 1 && items.size == items.size) = true then _ else _) _ _ s
  rw [if_neg hno, pick_back]
  first
    | exact wpAny_bind (m := Builtin.Tuple.tupleExact _) (wpAny_newObj_type (wpAny_pure ⟨_, rfl, wpAny_pure h⟩) htake)
    | exact wpAny_bind (m := Builtin.Tuple.tupleExact _) (wpAny_newObj_type (wpAny_bind (wpAny_pure (wpAny_pure ⟨_, rfl, wpAny_pure h⟩))) htake)
    | exact wpAny_bind (wpAny_bind (m := Builtin.Tuple.tupleExact _) (wpAny_newObj_type (wpAny_pure (wpAny_pure ⟨_, rfl, wpAny_pure h⟩)) htake))
    | exact wpAny_bind (wpAny_bind (m := Builtin.Tuple.tupleExact _) (wpAny_newObj_type (wpAny_pure ⟨_, rfl, wpAny_pure h⟩) htake))
end
/-- t[::-1] of a tuple -/
def tRevT (K : PySem.W.Frag) (te : TE) : TE := fun σ H Q => te σ H fun x H1 => ∃ a xs, x = .ref a ∧ SqT K H1 a xs ∧ ∀ p, H1 p = none → Q (.ref p) (upd H1 p (.tup xs.reverse))
section
variable {X : Cx}
theorem pe_revT {e : Expr} {te : TE} {k : Nat} {p1 p2 p3 pos : Pos} (he : PE X e te) : PE X (.Subscript e (.Slice none none (some (.UnaryOp .USub (.Constant (.int 1) k p1) p2)) p3) pos) (tRevT X.K te) := by
  refine ⟨fun pins s σ H Q I h => ?_⟩
  refine Subscript_ (thn (he.run pins s σ H _ I h) fun v s1 ⟨x, H1, I1, r1, q1⟩ => ?_)
  obtain ⟨a, xs, ex, hx, q⟩ := q1
  subst ex
  cases r1
  have hst : PO X (some (.UnaryOp .USub (.Constant (.int 1) k p1) p2)) (tPart (tUn (rU fun i => .int (-i)) (tC (.int 1)))) := po_some (pe_un un_neg pe_int)
  refine wpAny_Slice (thn (po_none.run pins s1 σ H1 (fun o H2 => o = none ∧ H2 = H1) I1 ⟨rfl, rfl⟩) fun vl s2 ⟨l, H2, I2, pl, el, e2⟩ => ?_)
  subst el e2
  refine thn (po_none.run pins s2 σ H2 (fun o H3 => o = none ∧ H3 = H2) I2 ⟨rfl, rfl⟩) fun vu s3 ⟨u, H3, I3, pu, eu, e3⟩ => ?_
  subst eu e3
  refine thn (hst.run pins s3 σ H3 (fun o H4 => o = some (-1) ∧ H4 = H3) I3 ⟨1, rfl, -1, rfl, rfl, rfl⟩) fun vs s4 ⟨o, H4, I4, ps, eo, e4⟩ => ?_
  subst eo e4
  have I5 : Inv X pins σ H4 { s4 with heap := s4.heap.push { cls := .type "slice", data := .fields #[vl, vu, vs] } } := I4.kept (t' := s4.toks) fun b ob q => Heap.get?_push_of_some _ q
  obtain ⟨its, r, ht, hz⟩ := I5.tuple hx
  have hlen := r.length
  show wpAny (model X.prog X.w) X.A (subscriptTail e (.Slice none none (some (.UnaryOp .USub (.Constant (.int 1) k p1) p2)) p3) (.ref a) (.ref s4.heap.objs.size)) (EP X pins σ Q) X.xe { s4 with heap := s4.heap.push { cls := .type "slice", data := .fields #[vl, vu, vs] } }
  refine tail_any (ops := [.ref a, .ref s4.heap.objs.size]) ht.typeIs (PyProof.Rows.slot_tuple_getitem.lookup) ?_ (by with_unfolding_all rfl)
  refine getItem_tuple_back ht (Heap.IsSliceOf.new _ vl vu vs) pl pu ps ?_ (by rw [List.size_toArray]; omega)
  refine ⟨.ref _, _, I5.laid (t' := s4.toks) (o := .tup xs.reverse) (fun b ob q => Heap.get?_push_of_some _ q) (Nat.le_refl _) ?_, rfl, q _ (I5.hok.fresh (Nat.le_refl _))⟩
  exact ⟨by rw [List.length_reverse]; exact hz, _, r.reverse, IsTup.new _ _⟩
end
end L2
namespace Sh
open PySem L2
@[simp] def fRevT (f : EF) : EF := fun sg st => (f sg st).bind fun x st1 => match x with
  | .tup l => .ok (.tup l.reverse) st1
  | _ => .bad
section
variable {X : Cx} {W : We} {e : Expr} {f : EF} {p2 pos : Pos}
theorem se_revT {k : Nat} {p1 p3 : Pos} (he : SE X W e f) : SE X W (.Subscript e (.Slice none none (some (.UnaryOp .USub (.Constant (.int 1) k p1) p2)) p3) pos) (fRevT f) :=
  pe_weak (pe_revT he) fun σ H Q ⟨m, sg, st, em, rm, rs, hp⟩ => ⟨m, sg, st, em, rm, rs, hp.bindc fun m1 x v st1 e1 r1 q1 hp1 => by
    split at hp1
    · cases q1 with
      | tup k1 k2 => exact ⟨_, _, rfl, sqT_mono r1.sub k1, hp1.lay (α := D) r1 fun p hn => .tup (.of upd_same) (rev_rep (k2.mono (Ext.lay r1 hn)))⟩
    · exact False.elim hp1⟩
end
end Sh
/-! Part ZZA: divmod; own |, &, ^ -/
namespace Sh
open PySem L2
section
variable {X : Cx} {W : We}
@[simp] def bDivmod : List D → Sto → Res D := fun l st => match l with
  | [.int i, .int j] => if 0 < j ∧ divOk j then .ok (.tup [.int (i / j), .int (i % j)]) st else .bad
  | _ => .bad
theorem fits_divmod : FitsL X W (fun xs H Q => ∃ i j, xs = [.int i, .int j] ∧ CDivP i j ∧ ∀ p, H p = none → Q (.ref p) (upd H p (.tup [.int (i / j), .int (i % j)]))) bDivmod := by
  intro m st σ l vs Q rm ra hp
  unfold bDivmod at hp
  split at hp
  · rename_i i j
    split at hp
    · rename_i h
      cases ra with
      | cons h1 h2 =>
        cases h2 with
        | cons h3 h4 =>
          cases h4
          cases h1
          cases h3
          exact ⟨i, j, rfl, ⟨h.1, PyProof.noPylong_of_log2 h.2⟩, hp.lay (α := D) rm fun p hn => .tup (.of upd_same) (.cons (.int _) (.cons (.int _) .nil))⟩
    · exact False.elim hp
  · exact False.elim hp
end
end Sh
/-! the text by places; what each def means (F_); that it does (ok_). Printed by gen.py, a program of mine. -/
namespace Law
open PySem L2 Sh He
def top (i : Nat) : Stmt := PySem.Challenge.pw_roundline_k07_counted_and_told_by_number.main.body.getD i (.Pass ⟨0, 0, 0, 0⟩)
abbrev s_law_draw : Stmt := top 29
abbrev s_law_modulus : Stmt := top 30
abbrev s_law_classes : Stmt := top 31
abbrev s_law_changed : Stmt := top 32
abbrev s_law_row : Stmt := top 33
abbrev s_is_whole : Stmt := top 9
abbrev s_prime_divisors : Stmt := top 19
abbrev s_is_periodic : Stmt := top 20
abbrev s_least_period : Stmt := top 21
abbrev s_sums_of : Stmt := top 22
abbrev s_Plainest_init : Stmt := inClass (top 23) 0
abbrev s_checked : Stmt := top 24
abbrev s_Distances_init : Stmt := inClass (top 26) 0
abbrev s_law_set : Stmt := top 37
abbrev s_law_probes : Stmt := top 35
abbrev s_law_is_in : Stmt := top 34
abbrev s_law_same : Stmt := top 36
abbrev s_Plainest_many : Stmt := inClass (top 23) 2
abbrev s_Distances_count : Stmt := inClass (top 26) 14
abbrev s_law_many : Stmt := top 38
abbrev s_law_counted : Stmt := top 39
abbrev s_Plainest_end : Stmt := inClass (top 23) 3
abbrev s_Plainest_member : Stmt := inClass (top 23) 4
abbrev s_Distances_nth : Stmt := inClass (top 26) 15
abbrev s_law_numbered : Stmt := top 40
abbrev s_Distances_invert : Stmt := inClass (top 26) 7
abbrev s_law_right : Stmt := top 41
abbrev s_law_well : Stmt := top 28
abbrev s_law : Stmt := top 42
end Law
namespace Law
open PySem Sh
noncomputable def g_law_draw : SF := (sSeq (sIf (tOfE (fBin dGt (fBin dIx (fVar 0) (fC (.int 0))) (fC (.int 0)))) (sSeq (sSet 2 (fBin dMod (fCall bInt (aCons (fBin dIx (fVar 0) (fC (.int 0))) aNil)) (fVar 1))) (sSeq (sSub (fVar 0) (fC (.int 0)) (fBin dDiv (fBin dIx (fVar 0) (fC (.int 0))) (fVar 1))) (sRet (fVar 2)))) sNil) (sSeq (sSub (fVar 0) (fC (.int 2)) (fBin dAdd (fBin dIx (fVar 0) (fC (.int 2))) (fC (.int 1)))) (sSeq (sSet 3 (fBin dMul (fC (.int 32452843)) (fBin dIx (fVar 0) (fC (.int 2))))) (sSeq (sSet 4 (fBin dMod (fCall bInt (aCons (fBin dAdd (fBin dPow (fBin dAdd (fBin dIx (fVar 0) (fC (.int 1))) (fVar 3)) (fC (.int 3))) (fBin dMul (fC (.int 7)) (fVar 3))) aNil)) (fBin dAdd (fBin dPow (fC (.int 10)) (fC (.int 38))) (fC (.int 133))))) (sSeq (sSet 4 (fBin dMod (fCall bInt (aCons (fBin dPow (fBin dAdd (fVar 4) (fBin dMul (fC (.int 49979687)) (fBin dIx (fVar 0) (fC (.int 2))))) (fC (.int 3))) aNil)) (fBin dAdd (fBin dPow (fC (.int 10)) (fC (.int 37))) (fC (.int 43))))) (sRet (fBin dMod (fCall bInt (aCons (fBin dDiv (fVar 4) (fBin dPow (fC (.int 10)) (fC (.int 9)))) aNil)) (fVar 1))))))))
noncomputable def F_law_draw : FF := (fnF 5 g_law_draw)
noncomputable def b_law_modulus_0 : EF := (fVar 3)
theorem at_b_law_modulus_0 (sg : Sg) (st : Sto) : b_law_modulus_0 sg st = (fVar 3) sg st := rfl
noncomputable def b_law_modulus_1 : TF := (tOfE (fBin dEq (fBin dMod (fBin dIx (fLst (aCons (fC (.int 5040)) (aCons (fC (.int 720)) aNil))) (fBin dSub (fVar 1) (fC (.int 1)))) (fVar 3)) (fC (.int 0))))
theorem at_b_law_modulus_1 (sg : Sg) (st : Sto) : b_law_modulus_1 sg st = (tOfE (fBin dEq (fBin dMod (fBin dIx (fLst (aCons (fC (.int 5040)) (aCons (fC (.int 720)) aNil))) (fBin dSub (fVar 1) (fC (.int 1)))) (fVar 3)) (fC (.int 0)))) sg st := rfl
noncomputable def g_law_modulus : SF := (sSeq (sIf (tOfE (fBin dGt (fVar 1) (fC (.int 0)))) (sSeq (sSet 2 (fLc [3] (iRange2 (aCons (fC (.int 1)) (aCons (fC (.int 721)) aNil))) (.one 3) b_law_modulus_1 b_law_modulus_0)) (sRet (fBin dIx (fVar 2) (fCall (cF F_law_draw 2 []) (aCons (fVar 0) (aCons (fBin dIx (fLst (aCons (fC (.int 16)) (aCons (fCall bLen (aCons (fVar 2) aNil)) aNil))) (fCall (cF F_law_draw 2 []) (aCons (fVar 0) (aCons (fC (.int 2)) aNil)))) aNil)))))) sNil) (sRet (fBin dIx (fLst (aCons (fBin dAdd (fC (.int 1)) (fCall (cF F_law_draw 2 []) (aCons (fVar 0) (aCons (fC (.int 12)) aNil)))) (aCons (fBin dAdd (fC (.int 1)) (fCall (cF F_law_draw 2 []) (aCons (fVar 0) (aCons (fC (.int 40)) aNil)))) (aCons (fBin dAdd (fC (.int 1)) (fCall (cF F_law_draw 2 []) (aCons (fVar 0) (aCons (fC (.int 720)) aNil)))) aNil)))) (fCall (cF F_law_draw 2 []) (aCons (fVar 0) (aCons (fC (.int 3)) aNil))))))
noncomputable def F_law_modulus : FF := (fnF 4 g_law_modulus)
noncomputable def b_law_classes_0 : EF := (fBin dEq (fCall (cF F_law_draw 2 []) (aCons (fVar 0) (aCons (fC (.int 3)) aNil))) (fC (.int 0)))
theorem at_b_law_classes_0 (sg : Sg) (st : Sto) : b_law_classes_0 sg st = (fBin dEq (fCall (cF F_law_draw 2 []) (aCons (fVar 0) (aCons (fC (.int 3)) aNil))) (fC (.int 0))) sg st := rfl
noncomputable def b_law_classes_1 : EF := (fVar 4)
theorem at_b_law_classes_1 (sg : Sg) (st : Sto) : b_law_classes_1 sg st = (fVar 4) sg st := rfl
noncomputable def b_law_classes_2 : TF := (tTru (fBin dIx (fVar 3) (fBin dMod (fVar 4) (fVar 2))))
theorem at_b_law_classes_2 (sg : Sg) (st : Sto) : b_law_classes_2 sg st = (tTru (fBin dIx (fVar 3) (fBin dMod (fVar 4) (fVar 2)))) sg st := rfl
noncomputable def b_law_classes_3 : EF := (fVar 4)
theorem at_b_law_classes_3 (sg : Sg) (st : Sto) : b_law_classes_3 sg st = (fVar 4) sg st := rfl
noncomputable def b_law_classes_4 : TF := (tOfE (fBin dNe (fVar 4) (fVar 7)))
theorem at_b_law_classes_4 (sg : Sg) (st : Sto) : b_law_classes_4 sg st = (tOfE (fBin dNe (fVar 4) (fVar 7))) sg st := rfl
noncomputable def b_law_classes_5 : EF := (fVar 7)
theorem at_b_law_classes_5 (sg : Sg) (st : Sto) : b_law_classes_5 sg st = (fVar 7) sg st := rfl
noncomputable def b_law_classes_6 : SF := (sSeq (sSet 7 (fCall (cF F_law_draw 2 []) (aCons (fVar 0) (aCons (fVar 1) aNil)))) (sSet 5 (fBin dAdd (fLc [4] (iSeq (fVar 5)) (.one 4) b_law_classes_4 b_law_classes_3) (fLc [4] (iRange1 (aCons (fCall bInt (aCons (fBin (dInL true) (fVar 7) (fVar 5)) aNil)) aNil)) (.one 4) tYesD b_law_classes_5))))
theorem at_b_law_classes_6 (sg : Sg) (st : Sto) : b_law_classes_6 sg st = (sSeq (sSet 7 (fCall (cF F_law_draw 2 []) (aCons (fVar 0) (aCons (fVar 1) aNil)))) (sSet 5 (fBin dAdd (fLc [4] (iSeq (fVar 5)) (.one 4) b_law_classes_4 b_law_classes_3) (fLc [4] (iRange1 (aCons (fCall bInt (aCons (fBin (dInL true) (fVar 7) (fVar 5)) aNil)) aNil)) (.one 4) tYesD b_law_classes_5)))) sg st := rfl
noncomputable def g_law_classes : SF := (sSeq (sSet 2 (fBin dAdd (fC (.int 1)) (fCall (cF F_law_draw 2 []) (aCons (fVar 0) (aCons (fCall bMin (aCons (fC (.int 12)) (aCons (fVar 1) aNil))) aNil))))) (sSeq (sSet 3 (fLc [4] (iRange1 (aCons (fVar 2) aNil)) (.one 4) tYesD b_law_classes_0)) (sSeq (sSet 5 (fLc [4] (iRange1 (aCons (fVar 1) aNil)) (.one 4) b_law_classes_2 b_law_classes_1)) (sSeq (sFor (iRange1 (aCons (fCall (cF F_law_draw 2 []) (aCons (fVar 0) (aCons (fC (.int 4)) aNil))) aNil)) (.one 6) b_law_classes_6) (sSeq (sSet 5 (fSl dSl (fVar 5) oNone (oSome (fC (.int 300))))) (sSeq (sIf (tOfE (fBin dEq (fCall (cF F_law_draw 2 []) (aCons (fVar 0) (aCons (fC (.int 2)) aNil))) (fC (.int 0)))) (sSet 5 (fRev (fVar 5))) sNil) (sRet (fCall bTuple (aCons (fVar 5) aNil)))))))))
noncomputable def F_law_classes : FF := (fnF 8 g_law_classes)
noncomputable def b_law_changed_0 : SF := (sSeq (sSet 5 (fCall (cF F_law_draw 2 []) (aCons (fVar 0) (aCons (fC (.int 5)) aNil)))) (sSeq (sSet 6 (fBin dIx (fLst (aCons (fBin dAdd (fC (.int 1)) (fCall (cF F_law_draw 2 []) (aCons (fVar 0) (aCons (fC (.int 9)) aNil)))) (aCons (fBin dAdd (fC (.int 1)) (fCall (cF F_law_draw 2 []) (aCons (fVar 0) (aCons (fC (.int 60)) aNil)))) (aCons (fBin dAdd (fC (.int 1)) (fBin dMul (fVar 1) (fCall (cF F_law_draw 2 []) (aCons (fVar 0) (aCons (fC (.int 9)) aNil))))) aNil)))) (fBin dMod (fVar 5) (fC (.int 3))))) (sSeq (sIf (tOfE (fBin dEq (fVar 5) (fC (.int 3)))) (sSet 6 (fBin dAdd (fC (.int 1)) (fCall (cF F_law_draw 2 []) (aCons (fVar 0) (aCons (fBin dPow (fC (.int 10)) (fC (.int 59))) aNil))))) (sIf (tAnd' (tOfE (fBin dEq (fVar 5) (fC (.int 4)))) (tOfE (fBin dNe (fVar 3) (fLst aNil)))) (sSet 6 (fCall bMax (aCons (fC (.int 1)) (aCons (fBin dAdd (fBin dIx (fVar 3) (fUn dNeg (fC (.int 1)))) (fBin dIx (fLst (aCons (fVar 1) (aCons (fUn dNeg (fC (.int 1))) (aCons (fC (.int 1)) (aCons (fUn dNeg (fVar 1)) aNil))))) (fCall (cF F_law_draw 2 []) (aCons (fVar 0) (aCons (fC (.int 4)) aNil))))) aNil)))) sNil)) (sIf (tOfE (fBin (dInL true) (fVar 6) (fVar 3))) (sDrop (fBM "list" mApp (fVar 3) (aCons (fVar 6) aNil))) sNil))))
theorem at_b_law_changed_0 (sg : Sg) (st : Sto) : b_law_changed_0 sg st = (sSeq (sSet 5 (fCall (cF F_law_draw 2 []) (aCons (fVar 0) (aCons (fC (.int 5)) aNil)))) (sSeq (sSet 6 (fBin dIx (fLst (aCons (fBin dAdd (fC (.int 1)) (fCall (cF F_law_draw 2 []) (aCons (fVar 0) (aCons (fC (.int 9)) aNil)))) (aCons (fBin dAdd (fC (.int 1)) (fCall (cF F_law_draw 2 []) (aCons (fVar 0) (aCons (fC (.int 60)) aNil)))) (aCons (fBin dAdd (fC (.int 1)) (fBin dMul (fVar 1) (fCall (cF F_law_draw 2 []) (aCons (fVar 0) (aCons (fC (.int 9)) aNil))))) aNil)))) (fBin dMod (fVar 5) (fC (.int 3))))) (sSeq (sIf (tOfE (fBin dEq (fVar 5) (fC (.int 3)))) (sSet 6 (fBin dAdd (fC (.int 1)) (fCall (cF F_law_draw 2 []) (aCons (fVar 0) (aCons (fBin dPow (fC (.int 10)) (fC (.int 59))) aNil))))) (sIf (tAnd' (tOfE (fBin dEq (fVar 5) (fC (.int 4)))) (tOfE (fBin dNe (fVar 3) (fLst aNil)))) (sSet 6 (fCall bMax (aCons (fC (.int 1)) (aCons (fBin dAdd (fBin dIx (fVar 3) (fUn dNeg (fC (.int 1)))) (fBin dIx (fLst (aCons (fVar 1) (aCons (fUn dNeg (fC (.int 1))) (aCons (fC (.int 1)) (aCons (fUn dNeg (fVar 1)) aNil))))) (fCall (cF F_law_draw 2 []) (aCons (fVar 0) (aCons (fC (.int 4)) aNil))))) aNil)))) sNil)) (sIf (tOfE (fBin (dInL true) (fVar 6) (fVar 3))) (sDrop (fBM "list" mApp (fVar 3) (aCons (fVar 6) aNil))) sNil)))) sg st := rfl
noncomputable def g_law_changed : SF := (sSeq (sSet 3 (fNew aNil)) (sSeq (sFor (iRange1 (aCons (fCall (cF F_law_draw 2 []) (aCons (fVar 0) (aCons (fBin dAdd (fVar 2) (fC (.int 1))) aNil))) aNil)) (.one 4) b_law_changed_0) (sRet (fCall bTuple (aCons (fVar 3) aNil)))))
noncomputable def F_law_changed : FF := cutF (fnF 7 g_law_changed)
noncomputable def g_law_row : SF := (sSeq (sSet 3 (fCall (cF F_law_modulus 2 []) (aCons (fVar 0) (aCons (fVar 1) aNil)))) (sRet (fTup (aCons (fVar 3) (aCons (fCall (cF F_law_classes 2 []) (aCons (fVar 0) (aCons (fVar 3) aNil))) (aCons (fCall (cF F_law_changed 3 []) (aCons (fVar 0) (aCons (fVar 3) (aCons (fVar 2) aNil)))) aNil))))))
noncomputable def F_law_row : FF := (fnF 4 g_law_row)
noncomputable def g_is_whole : SF := (sRet (fAnd (fIsi (tbl tInt) ((1, false) :: []) (fVar 0)) (fNot (fIsi (tbl tBool) ((1, false) :: []) (fVar 0)))))
noncomputable def F_is_whole : FF := (fnF 1 g_is_whole)
noncomputable def b_prime_divisors_0 : SF := (sSet 0 (fBin dDiv (fVar 0) (fVar 2)))
theorem at_b_prime_divisors_0 (sg : Sg) (st : Sto) : b_prime_divisors_0 sg st = (sSet 0 (fBin dDiv (fVar 0) (fVar 2))) sg st := rfl
noncomputable def b_prime_divisors_1 : SF := (sSeq (sIf (tOfE (fBin dEq (fBin dMod (fVar 0) (fVar 2)) (fC (.int 0)))) (sSeq (sDrop (fBM "list" mApp (fVar 1) (aCons (fVar 2) aNil))) (sWhile fuel (tOfE (fBin dEq (fBin dMod (fVar 0) (fVar 2)) (fC (.int 0)))) b_prime_divisors_0)) sNil) (sSet 2 (fBin dAdd (fVar 2) (fC (.int 1)))))
theorem at_b_prime_divisors_1 (sg : Sg) (st : Sto) : b_prime_divisors_1 sg st = (sSeq (sIf (tOfE (fBin dEq (fBin dMod (fVar 0) (fVar 2)) (fC (.int 0)))) (sSeq (sDrop (fBM "list" mApp (fVar 1) (aCons (fVar 2) aNil))) (sWhile fuel (tOfE (fBin dEq (fBin dMod (fVar 0) (fVar 2)) (fC (.int 0)))) b_prime_divisors_0)) sNil) (sSet 2 (fBin dAdd (fVar 2) (fC (.int 1))))) sg st := rfl
noncomputable def g_prime_divisors : SF := (sSeq (sSet 1 (fNew aNil)) (sSeq (sSet 2 (fC (.int 2))) (sSeq (sWhile fuel (tOfE (fBin dGt (fVar 0) (fC (.int 1)))) b_prime_divisors_1) (sRet (fVar 1)))))
noncomputable def F_prime_divisors : FF := (fnF 3 g_prime_divisors)
noncomputable def g_is_periodic : SF := (sRet (fBin dEq (fSl dSl (fVar 0) (oSome (fVar 1)) oNone) (fSl dSl (fVar 0) oNone (oSome (fBin dSub (fCall bLen (aCons (fVar 0) aNil)) (fVar 1))))))
noncomputable def F_is_periodic : FF := (fnF 2 g_is_periodic)
noncomputable def b_least_period_0 : SF := (sSet 1 (fBin dDiv (fVar 1) (fVar 2)))
theorem at_b_least_period_0 (sg : Sg) (st : Sto) : b_least_period_0 sg st = (sSet 1 (fBin dDiv (fVar 1) (fVar 2))) sg st := rfl
noncomputable def b_least_period_1 : SF := (sWhile fuel (tAnd' (tOfE (fBin dEq (fBin dMod (fVar 1) (fVar 2)) (fC (.int 0)))) (tTru (fCall (cF F_is_periodic 2 []) (aCons (fVar 0) (aCons (fBin dDiv (fVar 1) (fVar 2)) aNil))))) b_least_period_0)
theorem at_b_least_period_1 (sg : Sg) (st : Sto) : b_least_period_1 sg st = (sWhile fuel (tAnd' (tOfE (fBin dEq (fBin dMod (fVar 1) (fVar 2)) (fC (.int 0)))) (tTru (fCall (cF F_is_periodic 2 []) (aCons (fVar 0) (aCons (fBin dDiv (fVar 1) (fVar 2)) aNil))))) b_least_period_0) sg st := rfl
noncomputable def g_least_period : SF := (sSeq (sSet 1 (fCall bLen (aCons (fVar 0) aNil))) (sSeq (sFor (iSeq (fCall (cF F_prime_divisors 1 []) (aCons (fCall bLen (aCons (fVar 0) aNil)) aNil))) (.one 2) b_least_period_1) (sRet (fVar 1))))
noncomputable def F_least_period : FF := cutF (fnF 3 g_least_period)
noncomputable def b_sums_of_0 : SF := (sDrop (fBM "list" mApp (fVar 1) (aCons (fBin dAdd (fBin dIx (fVar 1) (fUn dNeg (fC (.int 1)))) (fCall bInt (aCons (fBin dIx (fVar 0) (fBin dMod (fVar 2) (fCall bLen (aCons (fVar 0) aNil)))) aNil))) aNil)))
theorem at_b_sums_of_0 (sg : Sg) (st : Sto) : b_sums_of_0 sg st = (sDrop (fBM "list" mApp (fVar 1) (aCons (fBin dAdd (fBin dIx (fVar 1) (fUn dNeg (fC (.int 1)))) (fCall bInt (aCons (fBin dIx (fVar 0) (fBin dMod (fVar 2) (fCall bLen (aCons (fVar 0) aNil)))) aNil))) aNil))) sg st := rfl
noncomputable def g_sums_of : SF := (sSeq (sSet 1 (fNew (aCons (fC (.int 0)) aNil))) (sSeq (sFor (iRange2 (aCons (fC (.int 1)) (aCons (fBin dAdd (fCall bLen (aCons (fVar 0) aNil)) (fC (.int 1))) aNil))) (.one 2) b_sums_of_0) (sRet (fVar 1))))
noncomputable def F_sums_of : FF := frzF (fnF 3 g_sums_of)
noncomputable def g_Plainest_init : SF := (sSeq (sFldS 1 0 (fVar 0) (fCall (cF F_least_period 1 []) (aCons (fVar 1) aNil))) (sSeq (sFldS 1 1 (fVar 0) (fSl dSl (fVar 1) oNone (oSome (fFld 1 0 (fVar 0))))) (sSeq (sFldS 1 2 (fVar 0) (fVar 2)) (sFldS 1 3 (fVar 0) (fCall (cF F_sums_of 1 []) (aCons (fFld 1 1 (fVar 0)) aNil))))))
noncomputable def F_Plainest_init : FF := (fnF 3 g_Plainest_init)
noncomputable def b_checked_0 : EF := (fAnd (fCall (cF F_is_whole 1 []) (aCons (fVar 3) aNil)) (fChn dLe dLt (fC (.int 0)) (fVar 3) (fVar 0)))
theorem at_b_checked_0 (sg : Sg) (st : Sto) : b_checked_0 sg st = (fAnd (fCall (cF F_is_whole 1 []) (aCons (fVar 3) aNil)) (fChn dLe dLt (fC (.int 0)) (fVar 3) (fVar 0))) sg st := rfl
noncomputable def b_checked_1 : EF := (fAnd (fCall (cF F_is_whole 1 []) (aCons (fVar 3) aNil)) (fBin dGe (fVar 3) (fC (.int 1))))
theorem at_b_checked_1 (sg : Sg) (st : Sto) : b_checked_1 sg st = (fAnd (fCall (cF F_is_whole 1 []) (aCons (fVar 3) aNil)) (fBin dGe (fVar 3) (fC (.int 1)))) sg st := rfl
noncomputable def b_checked_2 : EF := (fBin (dInL false) (fVar 5) (fVar 1))
theorem at_b_checked_2 (sg : Sg) (st : Sto) : b_checked_2 sg st = (fBin (dInL false) (fVar 5) (fVar 1)) sg st := rfl
noncomputable def g_checked : SF := (sSeq (sIf (tOr' (tNot' (tTru (fCall (cF F_is_whole 1 []) (aCons (fVar 0) aNil)))) (tNot' (tOfE (fChn dLe dLe (fC (.int 1)) (fVar 0) (fC (.int 720)))))) (fun sg st => .exc 3 none sg st) sNil) (sSeq (sIf (tOr' (tNot' (tTru (fIsi (tbl tTuple) [] (fVar 1)))) (tNot' (tTru (fCall bAll (aCons (fLc [3] (iTupD (fVar 1)) (.one 3) tYesD b_checked_0) aNil))))) (fun sg st => .exc 4 none sg st) sNil) (sSeq (sIf (tOfE (fBin dLt (fUn1 kLenSet (fVar 1)) (fCall bLen (aCons (fVar 1) aNil)))) (fun sg st => .exc 4 none sg st) sNil) (sSeq (sIf (tOr' (tNot' (tTru (fIsi (tbl tTuple) [] (fVar 2)))) (tNot' (tTru (fCall bAll (aCons (fLc [3] (iTupD (fVar 2)) (.one 3) tYesD b_checked_1) aNil))))) (fun sg st => .exc 5 none sg st) sNil) (sSeq (sIf (tOfE (fBin dLt (fUn1 kLenSet (fVar 2)) (fCall bLen (aCons (fVar 2) aNil)))) (fun sg st => .exc 5 none sg st) sNil) (sSeq (sSet 4 (fLc [5] (iRange1 (aCons (fVar 0) aNil)) (.one 5) tYesD b_checked_2)) (sRet (fCall (mkF 1 F_Plainest_init 3 []) (aCons (fVar 4) (aCons (fCall bTuple (aCons (fCall bSorted (aCons (fVar 2) aNil)) aNil)) aNil))))))))))
noncomputable def F_checked : FF := (fnF 6 g_checked)
noncomputable def g_Distances_init : SF := (sFldS 2 0 (fVar 0) (fIfE (tTru (fIsi (tbl tOwn) ((1, true) :: []) (fVar 1))) (fVar 1) (fCall (cF F_checked 3 []) (aCons (fVar 1) (aCons (fVar 2) (aCons (fVar 3) aNil))))))
noncomputable def F_Distances_init : FF := (fnF 4 g_Distances_init)
noncomputable def g_law_set : SF := (sRet (fCall (mkF 2 F_Distances_init 4 []) (aCons (fBin dIx (fVar 0) (fC (.int 0))) (aCons (fBin dIx (fVar 0) (fC (.int 1))) (aCons (fBin dIx (fVar 0) (fC (.int 2))) aNil)))))
noncomputable def F_law_set : FF := (fnF 1 g_law_set)
noncomputable def b_law_probes_0 : SF := (sDrop (fBM "list" mExt (fVar 2) (aCons (fLst (aCons (fVar 4) (aCons (fBin dAdd (fVar 4) (fC (.int 1))) (aCons (fCall bMax (aCons (fC (.int 1)) (aCons (fBin dSub (fVar 4) (fC (.int 1))) aNil))) (aCons (fBin dAdd (fVar 4) (fBin dIx (fVar 3) (fC (.int 0)))) (aCons (fCall bMax (aCons (fC (.int 1)) (aCons (fBin dSub (fVar 4) (fBin dIx (fVar 3) (fC (.int 0)))) aNil))) aNil)))))) aNil)))
theorem at_b_law_probes_0 (sg : Sg) (st : Sto) : b_law_probes_0 sg st = (sDrop (fBM "list" mExt (fVar 2) (aCons (fLst (aCons (fVar 4) (aCons (fBin dAdd (fVar 4) (fC (.int 1))) (aCons (fCall bMax (aCons (fC (.int 1)) (aCons (fBin dSub (fVar 4) (fC (.int 1))) aNil))) (aCons (fBin dAdd (fVar 4) (fBin dIx (fVar 3) (fC (.int 0)))) (aCons (fCall bMax (aCons (fC (.int 1)) (aCons (fBin dSub (fVar 4) (fBin dIx (fVar 3) (fC (.int 0)))) aNil))) aNil)))))) aNil))) sg st := rfl
noncomputable def b_law_probes_1 : SF := (sSeq (sFor (iTupD (fBin dIx (fVar 3) (fC (.int 2)))) (.one 4) b_law_probes_0) (sSeq (sDrop (fBM "list" mApp (fVar 2) (aCons (fBin dAdd (fBin dMul (fBin dIx (fVar 3) (fC (.int 0))) (fBin dAdd (fC (.int 1)) (fCall (cF F_law_draw 2 []) (aCons (fVar 0) (aCons (fBin dPow (fC (.int 10)) (fC (.int 30))) aNil))))) (fCall (cF F_law_draw 2 []) (aCons (fVar 0) (aCons (fBin dIx (fVar 3) (fC (.int 0))) aNil)))) aNil))) (sDrop (fBM "list" mApp (fVar 2) (aCons (fBin dAdd (fC (.int 1)) (fCall (cF F_law_draw 2 []) (aCons (fVar 0) (aCons (fBin dPow (fC (.int 10)) (fC (.int 55))) aNil)))) aNil)))))
theorem at_b_law_probes_1 (sg : Sg) (st : Sto) : b_law_probes_1 sg st = (sSeq (sFor (iTupD (fBin dIx (fVar 3) (fC (.int 2)))) (.one 4) b_law_probes_0) (sSeq (sDrop (fBM "list" mApp (fVar 2) (aCons (fBin dAdd (fBin dMul (fBin dIx (fVar 3) (fC (.int 0))) (fBin dAdd (fC (.int 1)) (fCall (cF F_law_draw 2 []) (aCons (fVar 0) (aCons (fBin dPow (fC (.int 10)) (fC (.int 30))) aNil))))) (fCall (cF F_law_draw 2 []) (aCons (fVar 0) (aCons (fBin dIx (fVar 3) (fC (.int 0))) aNil)))) aNil))) (sDrop (fBM "list" mApp (fVar 2) (aCons (fBin dAdd (fC (.int 1)) (fCall (cF F_law_draw 2 []) (aCons (fVar 0) (aCons (fBin dPow (fC (.int 10)) (fC (.int 55))) aNil)))) aNil))))) sg st := rfl
noncomputable def g_law_probes : SF := (sSeq (sSet 2 (fRg2 kRgLN (fC (.int 1)) (fC (.int 25)))) (sSeq (sFor (iSeq (fVar 1)) (.one 3) b_law_probes_1) (sRet (fVar 2))))
noncomputable def F_law_probes : FF := frzF (fnF 5 g_law_probes)
noncomputable def g_law_is_in : SF := (sRet (fBin dNe (fBin (dInL false) (fBin dMod (fCall bInt (aCons (fVar 1) aNil)) (fBin dIx (fVar 0) (fC (.int 0)))) (fBin dIx (fVar 0) (fC (.int 1)))) (fBin (dInL false) (fVar 1) (fBin dIx (fVar 0) (fC (.int 2))))))
noncomputable def F_law_is_in : FF := (fnF 2 g_law_is_in)
noncomputable def b_law_same_0 (Fr : FF) : EF := (fCall (cF Fr 2 []) (aCons (fBin dIx (fVar 0) (fVar 3)) (aCons (fBin dIx (fVar 1) (fVar 3)) aNil)))
theorem at_b_law_same_0 (Fr : FF) (sg : Sg) (st : Sto) : b_law_same_0 Fr sg st = (fCall (cF Fr 2 []) (aCons (fBin dIx (fVar 0) (fVar 3)) (aCons (fBin dIx (fVar 1) (fVar 3)) aNil))) sg st := rfl
noncomputable def g_law_same (Fr : FF) : SF := (sSeq (sIf (tTru (fIsi (tbl tSeq) [] (fVar 1))) (sSeq (sSet 2 (fIfE (tTru (fIsi (tbl tList) [] (fVar 1))) (fIsi (tbl tList) [] (fVar 0)) (fIsi (tbl tTuple) [] (fVar 0)))) (sSeq (sIf (tOr' (tNot' (tTru (fVar 2))) (tOfE (fBin dNe (fCall bLen (aCons (fVar 0) aNil)) (fCall bLen (aCons (fVar 1) aNil))))) (sRet (fC (.bl false))) sNil) (sRet (fCall bAll (aCons (fLc [3] (iRange1 (aCons (fCall bLen (aCons (fVar 1) aNil)) aNil)) (.one 3) tYesD (b_law_same_0 Fr)) aNil))))) sNil) (sSeq (sIf (tOfE (fBin dIsN (fVar 1) (fC .non))) (sRet (fBin dIsN (fVar 0) (fC .non))) sNil) (sSeq (sIf (tTru (fIsi (tbl tStr) [] (fVar 1))) (sRet (fAnd (fIsi (tbl tStr) [] (fVar 0)) (fBin dEq (fVar 0) (fVar 1)))) sNil) (sRet (fAnd (fIsi (tbl tInt) [] (fVar 0)) (fAnd (fBin dEq (fIsi (tbl tBool) [] (fVar 0)) (fIsi (tbl tBool) [] (fVar 1))) (fBin dEq (fVar 0) (fVar 1))))))))
noncomputable def F_law_same : FF := recF 4 g_law_same 8
noncomputable def b_Plainest_many_0 : SF := (sIf (tOfE (fBin dLe (fVar 5) (fVar 1))) (sAug 4 dAddI (fIfE (tTru (fBin dIx (fFld 1 1 (fVar 0)) (fBin dMod (fVar 5) (fFld 1 0 (fVar 0))))) (fUn dNeg (fC (.int 1))) (fC (.int 1)))) sNil)
theorem at_b_Plainest_many_0 (sg : Sg) (st : Sto) : b_Plainest_many_0 sg st = (sIf (tOfE (fBin dLe (fVar 5) (fVar 1))) (sAug 4 dAddI (fIfE (tTru (fBin dIx (fFld 1 1 (fVar 0)) (fBin dMod (fVar 5) (fFld 1 0 (fVar 0))))) (fUn dNeg (fC (.int 1))) (fC (.int 1)))) sNil) sg st := rfl
noncomputable def g_Plainest_many : SF := (sSeq (sAsg (.many [2, 3]) (fCall bDivmod (aCons (fVar 1) (aCons (fFld 1 0 (fVar 0)) aNil)))) (sSeq (sSet 4 (fBin dAdd (fBin dMul (fVar 2) (fBin dIx (fFld 1 3 (fVar 0)) (fUn dNeg (fC (.int 1))))) (fBin dIx (fFld 1 3 (fVar 0)) (fVar 3)))) (sSeq (sFor (iTupD (fFld 1 2 (fVar 0))) (.one 5) b_Plainest_many_0) (sRet (fVar 4)))))
noncomputable def F_Plainest_many : FF := (fnF 6 g_Plainest_many)
noncomputable def g_Distances_count : SF := (sSeq (sIf (tOr' (tNot' (tTru (fCall (cF F_is_whole 1 []) (aCons (fVar 1) aNil)))) (tOfE (fBin dLt (fVar 1) (fC (.int 0))))) (fun sg st => .exc 6 none sg st) sNil) (sRet (fMeth 1 F_Plainest_many 2 [] (fFld 2 0 (fVar 0)) (aCons (fVar 1) aNil))))
noncomputable def F_Distances_count : FF := (fnF 2 g_Distances_count)
noncomputable def b_law_many_0 : EF := (fVar 5)
theorem at_b_law_many_0 (sg : Sg) (st : Sto) : b_law_many_0 sg st = (fVar 5) sg st := rfl
noncomputable def b_law_many_1 : TF := (tOfE (fChn dLe dLe (fC (.int 1)) (fVar 5) (fVar 3)))
theorem at_b_law_many_1 (sg : Sg) (st : Sto) : b_law_many_1 sg st = (tOfE (fChn dLe dLe (fC (.int 1)) (fVar 5) (fVar 3))) sg st := rfl
noncomputable def b_law_many_2 : SF := (sIf (tOfE (fBin dLe (fVar 6) (fVar 1))) (sSet 4 (fBin dAdd (fVar 4) (fIfE (tOfE (fBin (dInL true) (fBin dMod (fVar 6) (fBin dIx (fVar 0) (fC (.int 0)))) (fBin dIx (fVar 0) (fC (.int 1))))) (fC (.int 1)) (fUn dNeg (fC (.int 1)))))) sNil)
theorem at_b_law_many_2 (sg : Sg) (st : Sto) : b_law_many_2 sg st = (sIf (tOfE (fBin dLe (fVar 6) (fVar 1))) (sSet 4 (fBin dAdd (fVar 4) (fIfE (tOfE (fBin (dInL true) (fBin dMod (fVar 6) (fBin dIx (fVar 0) (fC (.int 0)))) (fBin dIx (fVar 0) (fC (.int 1))))) (fC (.int 1)) (fUn dNeg (fC (.int 1)))))) sNil) sg st := rfl
noncomputable def g_law_many : SF := (sSeq (sAsg (.many [2, 3]) (fTup (aCons (fBin dDiv (fVar 1) (fBin dIx (fVar 0) (fC (.int 0)))) (aCons (fBin dMod (fVar 1) (fBin dIx (fVar 0) (fC (.int 0)))) aNil)))) (sSeq (sSet 4 (fBin dAdd (fBin dMul (fVar 2) (fCall bLen (aCons (fBin dIx (fVar 0) (fC (.int 1))) aNil))) (fCall bLen (aCons (fLc [5] (iTupD (fBin dIx (fVar 0) (fC (.int 1)))) (.one 5) b_law_many_1 b_law_many_0) aNil)))) (sSeq (sFor (iTupD (fBin dIx (fVar 0) (fC (.int 2)))) (.one 6) b_law_many_2) (sRet (fVar 4)))))
noncomputable def F_law_many : FF := (fnF 7 g_law_many)
noncomputable def b_law_counted_0 : SF := (sSeq (sSet 3 (fBin dAdd (fVar 3) (fCall bInt (aCons (fAnd (fBin dGt (fVar 4) (fC (.int 0))) (fCall (cF F_law_is_in 2 []) (aCons (fVar 1) (aCons (fVar 4) aNil)))) aNil)))) (sIf (tNot' (tTru (fCall (cF F_law_same 2 []) (aCons (fMeth 2 F_Distances_count 2 [] (fVar 0) (aCons (fVar 4) aNil)) (aCons (fVar 3) aNil))))) (sRet (fC (.bl false))) sNil))
theorem at_b_law_counted_0 (sg : Sg) (st : Sto) : b_law_counted_0 sg st = (sSeq (sSet 3 (fBin dAdd (fVar 3) (fCall bInt (aCons (fAnd (fBin dGt (fVar 4) (fC (.int 0))) (fCall (cF F_law_is_in 2 []) (aCons (fVar 1) (aCons (fVar 4) aNil)))) aNil)))) (sIf (tNot' (tTru (fCall (cF F_law_same 2 []) (aCons (fMeth 2 F_Distances_count 2 [] (fVar 0) (aCons (fVar 4) aNil)) (aCons (fVar 3) aNil))))) (sRet (fC (.bl false))) sNil)) sg st := rfl
noncomputable def b_law_counted_1 : EF := (fVar 4)
theorem at_b_law_counted_1 (sg : Sg) (st : Sto) : b_law_counted_1 sg st = (fVar 4) sg st := rfl
noncomputable def b_law_counted_2 : TF := (tNot' (tTru (fCall (cF F_law_same 2 []) (aCons (fMeth 2 F_Distances_count 2 [] (fVar 0) (aCons (fVar 4) aNil)) (aCons (fCall (cF F_law_many 2 []) (aCons (fVar 1) (aCons (fVar 4) aNil))) aNil)))))
theorem at_b_law_counted_2 (sg : Sg) (st : Sto) : b_law_counted_2 sg st = (tNot' (tTru (fCall (cF F_law_same 2 []) (aCons (fMeth 2 F_Distances_count 2 [] (fVar 0) (aCons (fVar 4) aNil)) (aCons (fCall (cF F_law_many 2 []) (aCons (fVar 1) (aCons (fVar 4) aNil))) aNil))))) sg st := rfl
noncomputable def g_law_counted : SF := (sSeq (sSet 3 (fC (.int 0))) (sSeq (sFor (iRange2 (aCons (fC (.int 0)) (aCons (fC (.int 60)) aNil))) (.one 4) b_law_counted_0) (sRet (fBin dEq (fLc [4] (iSeq (fVar 2)) (.one 4) b_law_counted_2 b_law_counted_1) (fLst aNil)))))
noncomputable def F_law_counted : FF := (fnF 5 g_law_counted)
noncomputable def g_Plainest_end : SF := (sRet (fIfE (tOfE (fBin dNe (fFld 1 2 (fVar 0)) (fTup aNil))) (fBin dAdd (fBin dIx (fFld 1 2 (fVar 0)) (fUn dNeg (fC (.int 1)))) (fC (.int 1))) (fC (.int 1))))
noncomputable def F_Plainest_end : FF := (fnF 1 g_Plainest_end)
noncomputable def b_Plainest_member_0 : SF := (sSeq (sSet 4 (fBin dDiv (fBin dAdd (fVar 3) (fVar 2)) (fC (.int 2)))) (sIf (tOfE (fBin dLt (fMeth 1 F_Plainest_many 2 [] (fVar 0) (aCons (fVar 4) aNil)) (fVar 1))) (sSet 3 (fVar 4)) (sSet 2 (fVar 4))))
theorem at_b_Plainest_member_0 (sg : Sg) (st : Sto) : b_Plainest_member_0 sg st = (sSeq (sSet 4 (fBin dDiv (fBin dAdd (fVar 3) (fVar 2)) (fC (.int 2)))) (sIf (tOfE (fBin dLt (fMeth 1 F_Plainest_many 2 [] (fVar 0) (aCons (fVar 4) aNil)) (fVar 1))) (sSet 3 (fVar 4)) (sSet 2 (fVar 4)))) sg st := rfl
noncomputable def g_Plainest_member : SF := (sSeq (sSet 2 (fBin dAdd (fMeth 1 F_Plainest_end 1 [] (fVar 0) aNil) (fIfE (tOfE (fBin dGt (fBin dIx (fFld 1 3 (fVar 0)) (fUn dNeg (fC (.int 1)))) (fC (.int 0)))) (fBin dMul (fFld 1 0 (fVar 0)) (fVar 1)) (fC (.int 0))))) (sSeq (sIf (tOfE (fBin dLt (fMeth 1 F_Plainest_many 2 [] (fVar 0) (aCons (fVar 2) aNil)) (fVar 1))) (sRet (fC .non)) sNil) (sSeq (sSet 3 (fC (.int 0))) (sSeq (sWhile fuel (tOfE (fBin dGt (fBin dSub (fVar 2) (fVar 3)) (fC (.int 1)))) b_Plainest_member_0) (sRet (fVar 2))))))
noncomputable def F_Plainest_member : FF := (fnF 5 g_Plainest_member)
noncomputable def g_Distances_nth : SF := (sSeq (sIf (tOr' (tNot' (tTru (fCall (cF F_is_whole 1 []) (aCons (fVar 1) aNil)))) (tOfE (fBin dLt (fVar 1) (fC (.int 1))))) (fun sg st => .exc 7 none sg st) sNil) (sRet (fMeth 1 F_Plainest_member 2 [] (fFld 2 0 (fVar 0)) (aCons (fVar 1) aNil))))
noncomputable def F_Distances_nth : FF := (fnF 2 g_Distances_nth)
noncomputable def b_law_numbered_0 : SF := (sSeq (sSet 5 (fMeth 2 F_Distances_nth 2 [] (fVar 0) (aCons (fVar 4) aNil))) (sIf (tAnd' (tOfE (fBin dNotN (fVar 3) (fC .non))) (tOfE (fBin dGt (fVar 4) (fVar 3)))) (sIf (tOfE (fBin dNotN (fVar 5) (fC .non))) (sRet (fC (.bl false))) sNil) (sIf (tOr' (tNot' (tTru (fIsi (tbl tInt) [] (fVar 5)))) (tOr' (tTru (fIsi (tbl tBool) [] (fVar 5))) (tOfE (fBin dLt (fVar 5) (fC (.int 1)))))) (sRet (fC (.bl false))) (sIf (tOr' (tNot' (tTru (fCall (cF F_law_is_in 2 []) (aCons (fVar 1) (aCons (fVar 5) aNil))))) (tOfE (fBin dNe (fCall (cF F_law_many 2 []) (aCons (fVar 1) (aCons (fVar 5) aNil))) (fVar 4)))) (sRet (fC (.bl false))) sNil))))
theorem at_b_law_numbered_0 (sg : Sg) (st : Sto) : b_law_numbered_0 sg st = (sSeq (sSet 5 (fMeth 2 F_Distances_nth 2 [] (fVar 0) (aCons (fVar 4) aNil))) (sIf (tAnd' (tOfE (fBin dNotN (fVar 3) (fC .non))) (tOfE (fBin dGt (fVar 4) (fVar 3)))) (sIf (tOfE (fBin dNotN (fVar 5) (fC .non))) (sRet (fC (.bl false))) sNil) (sIf (tOr' (tNot' (tTru (fIsi (tbl tInt) [] (fVar 5)))) (tOr' (tTru (fIsi (tbl tBool) [] (fVar 5))) (tOfE (fBin dLt (fVar 5) (fC (.int 1)))))) (sRet (fC (.bl false))) (sIf (tOr' (tNot' (tTru (fCall (cF F_law_is_in 2 []) (aCons (fVar 1) (aCons (fVar 5) aNil))))) (tOfE (fBin dNe (fCall (cF F_law_many 2 []) (aCons (fVar 1) (aCons (fVar 5) aNil))) (fVar 4)))) (sRet (fC (.bl false))) sNil)))) sg st := rfl
noncomputable def g_law_numbered : SF := (sSeq (sSet 3 (fC .non)) (sSeq (sIf (tOfE (fBin dEq (fBin dIx (fVar 1) (fC (.int 1))) (fTup aNil))) (sSet 3 (fCall bLen (aCons (fBin dIx (fVar 1) (fC (.int 2))) aNil))) sNil) (sSeq (sFor (iSeq (fVar 2)) (.one 4) b_law_numbered_0) (sRet (fC (.bl true))))))
noncomputable def F_law_numbered : FF := (fnF 6 g_law_numbered)
noncomputable def b_Distances_invert_0 : EF := (fNot (fVar 1))
theorem at_b_Distances_invert_0 (sg : Sg) (st : Sto) : b_Distances_invert_0 sg st = (fNot (fVar 1)) sg st := rfl
noncomputable def g_Distances_invert : SF := (sRet (fCall (mkF 2 F_Distances_init 4 [.tup [], .tup []]) (aCons (fCall (mkF 1 F_Plainest_init 3 []) (aCons (fLc [1] (iSeq (fFld 1 1 (fFld 2 0 (fVar 0)))) (.one 1) tYesD b_Distances_invert_0) (aCons (fFld 1 2 (fFld 2 0 (fVar 0))) aNil))) aNil)))
noncomputable def F_Distances_invert : FF := (fnF 2 g_Distances_invert)
noncomputable def b_law_right_0 : EF := (fVar 6)
theorem at_b_law_right_0 (sg : Sg) (st : Sto) : b_law_right_0 sg st = (fVar 6) sg st := rfl
noncomputable def b_law_right_1 : TF := (tOfE (fBin (dInL true) (fVar 6) (fBin dIx (fVar 1) (fC (.int 1)))))
theorem at_b_law_right_1 (sg : Sg) (st : Sto) : b_law_right_1 sg st = (tOfE (fBin (dInL true) (fVar 6) (fBin dIx (fVar 1) (fC (.int 1))))) sg st := rfl
noncomputable def b_law_right_2 : SF := (sSeq (sIf (tOr' (tNot' (tTru (fCall (cF F_law_counted 3 []) (aCons (fVar 2) (aCons (fVar 1) (aCons (fVar 3) aNil)))))) (tNot' (tTru (fCall (cF F_law_numbered 3 []) (aCons (fVar 2) (aCons (fVar 1) (aCons (fVar 4) aNil))))))) (sRet (fC (.bl false))) sNil) (sPar 3 4 (aCons (fRev (fVar 3)) (aCons (fRev (fVar 4)) aNil))))
theorem at_b_law_right_2 (sg : Sg) (st : Sto) : b_law_right_2 sg st = (sSeq (sIf (tOr' (tNot' (tTru (fCall (cF F_law_counted 3 []) (aCons (fVar 2) (aCons (fVar 1) (aCons (fVar 3) aNil)))))) (tNot' (tTru (fCall (cF F_law_numbered 3 []) (aCons (fVar 2) (aCons (fVar 1) (aCons (fVar 4) aNil))))))) (sRet (fC (.bl false))) sNil) (sPar 3 4 (aCons (fRev (fVar 3)) (aCons (fRev (fVar 4)) aNil)))) sg st := rfl
noncomputable def g_law_right : SF := (sSeq (sSet 1 (fCall (cF F_law_row 3 []) (aCons (fVar 0) (aCons (fCall (cF F_law_draw 2 []) (aCons (fVar 0) (aCons (fC (.int 2)) aNil))) (aCons (fC (.int 12)) aNil))))) (sSeq (sIf (tOfE (fBin dEq (fCall (cF F_law_draw 2 []) (aCons (fVar 0) (aCons (fC (.int 4)) aNil))) (fC (.int 0)))) (sSet 1 (fTup (aCons (fBin dIx (fVar 1) (fC (.int 0))) (aCons (fTup aNil) (aCons (fBin dIx (fVar 1) (fC (.int 2))) aNil))))) sNil) (sSeq (sPar 2 3 (aCons (fCall (cF F_law_set 1 []) (aCons (fVar 1) aNil)) (aCons (fBin dAddL (fCall (cF F_law_probes 2 []) (aCons (fVar 0) (aCons (fLst (aCons (fVar 1) aNil)) aNil))) (fLst (aCons (fBin dIx (fVar 1) (fC (.int 0))) (aCons (fBin dSub (fBin dIx (fVar 1) (fC (.int 0))) (fC (.int 1))) (aCons (fBin dMul (fC (.int 2)) (fBin dIx (fVar 1) (fC (.int 0)))) aNil))))) aNil))) (sSeq (sSet 4 (fBin dAdd (fRg2 kRgL (fC (.int 1)) (fC (.int 12))) (fLst (aCons (fBin dAdd (fC (.int 1)) (fCall (cF F_law_draw 2 []) (aCons (fVar 0) (aCons (fBin dPow (fC (.int 10)) (fC (.int 50))) aNil)))) (aCons (fBin dAdd (fC (.int 1)) (fCall (cF F_law_draw 2 []) (aCons (fVar 0) (aCons (fC (.int 2000)) aNil)))) (aCons (fBin dAdd (fCall bLen (aCons (fBin dIx (fVar 1) (fC (.int 2))) aNil)) (fC (.int 1))) aNil)))))) (sSeq (sSet 5 (fTup (aCons (fBin dIx (fVar 1) (fC (.int 0))) (aCons (fCall bTuple (aCons (fLc [6] (iRange1 (aCons (fBin dIx (fVar 1) (fC (.int 0))) aNil)) (.one 6) b_law_right_1 b_law_right_0) aNil)) (aCons (fBin dIx (fVar 1) (fC (.int 2))) aNil))))) (sSeq (sFor (iRange1 (aCons (fC (.int 2)) aNil)) (.one 7) b_law_right_2) (sSeq (sIf (tOr' (tOfE (fBin dNe (fMeth 2 F_Distances_count 2 [] (fVar 2) (aCons (fBin dIx (fVar 3) (fC (.int 0))) aNil)) (fCall (cF F_law_many 2 []) (aCons (fVar 1) (aCons (fBin dIx (fVar 3) (fC (.int 0))) aNil))))) (tOfE (fBin dNe (fMethK 2 (cK F_Distances_nth 2 1 1 [(0, 0), (2, 0)] []) (fVar 2) (aCons (fC (.int 3)) aNil)) (fMeth 2 F_Distances_nth 2 [] (fVar 2) (aCons (fC (.int 3)) aNil))))) (sRet (fC (.bl false))) sNil) (sRet (fAnd (fCall (cF F_law_counted 3 []) (aCons (fUn (uOwn 2 F_Distances_invert 1 (fun _ _ => .bad)) (fVar 2)) (aCons (fVar 5) (aCons (fVar 3) aNil)))) (fCall (cF F_law_numbered 3 []) (aCons (fUn (uOwn 2 F_Distances_invert 1 (fun _ _ => .bad)) (fVar 2)) (aCons (fVar 5) (aCons (fVar 4) aNil)))))))))))))
noncomputable def F_law_right : FF := (fnF 8 g_law_right)
noncomputable def g_law_well : SF := (sSeq (sSet 2 (fC (.int 0))) (sSeq (sIf (tOfE (fBin dLt (fVar 1) (fCall bLen (aCons (fVar 0) aNil)))) (sSet 2 (fCall bInt (aCons (fBin dIx (fVar 0) (fVar 1)) aNil))) sNil) (sRet (fNew (aCons (fCall bMax (aCons (fC (.int 0)) (aCons (fBin dSub (fCall bAbs (aCons (fVar 2) aNil)) (fBin dPow (fC (.int 10)) (fC (.int 18)))) aNil))) (aCons (fBin dAdd (fBin dMod (fCall bInt (aCons (fVar 2) aNil)) (fBin dAdd (fBin dPow (fC (.int 10)) (fC (.int 36))) (fC (.int 67)))) (fBin dMul (fC (.int 7368787)) (fVar 1))) (aCons (fC (.int 1)) aNil)))))))
noncomputable def F_law_well : FF := (fnF 3 g_law_well)
noncomputable def b_law_0 : SF := (sIf (tNot' (tTru (fCall (cF F_law_right 1 []) (aCons (fCall (cF F_law_well 2 []) (aCons (fVar 0) (aCons (fVar 1) aNil))) aNil)))) (sRet (fC (.bl false))) sNil)
theorem at_b_law_0 (sg : Sg) (st : Sto) : b_law_0 sg st = (sIf (tNot' (tTru (fCall (cF F_law_right 1 []) (aCons (fCall (cF F_law_well 2 []) (aCons (fVar 0) (aCons (fVar 1) aNil))) aNil)))) (sRet (fC (.bl false))) sNil) sg st := rfl
noncomputable def g_law : SF := (sSeq (sFor (iRange1 (aCons (fCall bMax (aCons (fC (.int 1)) (aCons (fCall bMin (aCons (fC (.int 4)) (aCons (fCall bLen (aCons (fVar 0) aNil)) aNil))) aNil))) aNil)) (.one 1) b_law_0) (sRet (fC (.bl true))))
noncomputable def F_law : FF := (fnF 2 g_law)
def law_N : List Str := ["_law_script", "_law_k"]
end Law
/-! the well from which a law draws -/
namespace Law
open PySem Sh
/-- a well at n, from which at most t draws were taken by mixing -/
def Pot (st : Sto) (n : Nat) (t : Int) : Prop := ∃ p c u : Int, st[n]? = some (.lst [.int p, .int c, .int u]) ∧ 0 ≤ p ∧ 0 ≤ c ∧ c < 2 ^ 121 ∧ 0 ≤ u ∧ u ≤ t
theorem Pot.le {st : Sto} {n : Nat} {t t' : Int} (h : Pot st n t) (e : t ≤ t') : Pot st n t' :=
  let ⟨p, c, u, h1, h2, h3, h4, h5, h6⟩ := h; ⟨p, c, u, h1, h2, h3, h4, h5, Int.le_trans h6 e⟩
theorem Pot.append {st : Sto} {n : Nat} {t : Int} (h : Pot st n t) (r : Sto) : Pot (st ++ r) n t :=
  let ⟨p, c, u, h1, h2⟩ := h; ⟨p, c, u, by rw [List.getElem?_append_left (List.getElem?_eq_some_iff.mp h1).1]; exact h1, h2⟩
theorem Pot.lt {st : Sto} {n : Nat} {t : Int} (h : Pot st n t) : n < st.length := let ⟨_, _, _, h1, _⟩ := h; (List.getElem?_eq_some_iff.mp h1).1
theorem Pot.cg {st st' : Sto} {n : Nat} {t : Int} (h : Pot st n t) (e : st'[n]? = st[n]?) : Pot st' n t := let ⟨p, c, u, h1, h2⟩ := h; ⟨p, c, u, e.trans h1, h2⟩
theorem pot_raw (l : List Int) (k : Nat) (st : Sto) (hk : k < 64) : ∃ x y : Int, F_law_well [.scr l, .int k] st = .ok (.loc st.length) (st ++ [.lst [.int (if x - 10 ^ 18 > 0 then x - 10 ^ 18 else 0), .int (y % (10 ^ 36 + 67) + 7368787 * k), .int 1]]) := by
  have p18 : powOk 10 18 := by decide
  have p36 : powOk 10 36 := by decide
  have m1 : mulOk 7368787 (k : Int) := mulOk_of (a := 30) (b := 10) (by decide) (nat_lt_pow (by omega) (by omega)) (by decide) (by decide) (by decide)
  by_cases h : k < l.length
  · exact ⟨if l[k] < 0 then -l[k] else l[k], l[k], by simp -implicitDefEqProofs [F_law_well, g_law_well, p18, p36, m1, h]⟩
  · exact ⟨0, 0, by simp -implicitDefEqProofs [F_law_well, g_law_well, p18, p36, m1, h]⟩
theorem pot_ok (l : List Int) (k : Nat) (st : Sto) (hk : k < 64) : ∃ o, F_law_well [.scr l, .int k] st = .ok (.loc st.length) (st ++ [o]) ∧ Pot (st ++ [o]) st.length 1 := by
  obtain ⟨x, y, hx⟩ := pot_raw l k st hk
  have h1 : 0 ≤ y % (10 ^ 36 + 67) := Int.emod_nonneg _ (by decide)
  have h2 : y % (10 ^ 36 + 67) < 10 ^ 36 + 67 := Int.emod_lt_of_pos _ (by decide)
  refine ⟨_, hx, ⟨_, _, _, by rw [List.getElem?_append_right (Nat.le_refl _), Nat.sub_self]; rfl, ?_, ?_, ?_, by decide, Int.le_refl _⟩⟩
  · split <;> omega
  · omega
  · omega
/-- a draw: some number below many -/
theorem dip_ok {st : Sto} {n : Nat} {t m : Int} (h : Pot st n t) (ht : t < 2 ^ 60) (hm : 1 ≤ m) (hm2 : m < 2 ^ 200) :
    ∃ (r : Int) (o : SO), F_law_draw [.loc n, .int m] st = .ok (.int r) (st.set n o) ∧ 0 ≤ r ∧ r < m ∧ Pot (st.set n o) n (t + 1) := by
  obtain ⟨p, c, u, h1, h2, h3, h4, h5, h6⟩ := h
  have hn : n < st.length := (List.getElem?_eq_some_iff.mp h1).1
  have e2 : st[n] = .lst [.int p, .int c, .int u] := (List.getElem?_eq_some_iff.mp h1).2
  have m0 : 0 < m := by omega
  have dm : divOk m := divOk_of (b := 200) (nat_lt_pow (by omega) hm2) (by decide) (by decide)
  have r1 : ∀ x : Int, 0 ≤ x % m ∧ x % m < m := fun x => ⟨Int.emod_nonneg _ (by omega), Int.emod_lt_of_pos _ m0⟩
  by_cases hp : 0 < p
  · refine ⟨p % m, .lst [.int (p / m), .int c, .int u], by simp -implicitDefEqProofs [F_law_draw, g_law_draw, h1, hp, m0, dm], (r1 p).1, (r1 p).2, ⟨p / m, c, u, by simp [hn], Int.ediv_nonneg h2 (by omega), h3, h4, h5, by omega⟩⟩
  · have p1 : powOk 10 38 := by decide
    have p2 : powOk 10 37 := by decide
    have p3 : powOk 10 9 := by decide
    have mm1 : mulOk 32452843 (u + 1) := mulOk_of (a := 30) (b := 61) (by decide) (nat_lt_pow (by omega) (by omega)) (by decide) (by decide) (by decide)
    have mm2 : mulOk 7 (32452843 * (u + 1)) := mulOk_of (a := 4) (b := 95) (by decide) (nat_lt_pow (by omega) (by omega)) (by decide) (by decide) (by decide)
    have mm3 : mulOk 49979687 (u + 1) := mulOk_of (a := 30) (b := 61) (by decide) (nat_lt_pow (by omega) (by omega)) (by decide) (by decide) (by decide)
    have q1 : powOk (c + 32452843 * (u + 1)) 3 := powOk_of (n := 130) (nat_lt_pow (by omega) (by omega)) (by decide) (by decide)
    have hx : ∀ x : Int, 0 ≤ x % (10 ^ 38 + 133) ∧ x % (10 ^ 38 + 133) < 10 ^ 38 + 133 := fun x => ⟨Int.emod_nonneg _ (by decide), Int.emod_lt_of_pos _ (by decide)⟩
    have q2 : ∀ x : Int, powOk (x % (10 ^ 38 + 133) + 49979687 * (u + 1)) 3 := fun x => powOk_of (n := 150) (nat_lt_pow (by have := hx x; omega) (by have := hx x; omega)) (by decide) (by decide)
    have d9 : divOk (10 ^ 9) := by decide
    have q2' : ∀ x : Int, powOk (x % 100000000000000000000000000000000000133 + 49979687 * (u + 1)) 3 := q2
    have d9' : divOk 1000000000 := d9
    refine ⟨((((((c + 32452843 * (u + 1)) ^ 3 + 7 * (32452843 * (u + 1))) % (10 ^ 38 + 133) + 49979687 * (u + 1)) ^ 3) % (10 ^ 37 + 43)) / 10 ^ 9) % m, .lst [.int p, .int c, .int (u + 1)], ?_, (r1 _).1, (r1 _).2, ⟨p, c, u + 1, by simp [hn], h2, h3, h4, by omega, by omega⟩⟩
    simp -implicitDefEqProofs [F_law_draw, g_law_draw, h1, e2, hp, m0, hn, p1, p2, p3, q1, mm1, mm2, mm3, q2', d9']
noncomputable abbrev F_law_dip : FF := F_law_draw
end Law
/-! draws: only the pot at n changes; stores that are pure -/
namespace Law
open PySem Sh
structure Drw (n : Nat) (t : Int) (st st' : Sto) : Prop where
  pot : Pot st' n t
  len : st'.length = st.length
  oth : ∀ m, m ≠ n → st'[m]? = st[m]?
theorem Drw.refl {n : Nat} {t : Int} {st : Sto} (h : Pot st n t) : Drw n t st st := ⟨h, rfl, fun _ _ => rfl⟩
theorem Drw.trans {n : Nat} {t t' : Int} {a b c : Sto} (h : Drw n t a b) (k : Drw n t' b c) : Drw n t' a c := ⟨k.pot, k.len.trans h.len, fun m hm => (k.oth m hm).trans (h.oth m hm)⟩
theorem Drw.le {n : Nat} {t t' : Int} {a b : Sto} (h : Drw n t a b) (e : t ≤ t') : Drw n t' a b := ⟨h.pot.le e, h.len, h.oth⟩
theorem dip_dr {st : Sto} {n : Nat} {t m : Int} (h : Pot st n t) (ht : t < 2 ^ 59) (hm : 1 ≤ m) (hm2 : m < 2 ^ 200) :
    ∃ (r : Int) (st' : Sto), F_law_draw [.loc n, .int m] st = .ok (.int r) st' ∧ 0 ≤ r ∧ r < m ∧ Drw n (t + 1) st st' := by
  obtain ⟨r, o, h1, h2, h3, h4⟩ := dip_ok h (by omega) hm hm2
  exact ⟨r, _, h1, h2, h3, h4, by simp, fun k hk => by rw [List.getElem?_set_ne (Ne.symm hk)]⟩
/-- a list made of draws -/
theorem lc_draw {n : Nat} {c : Int} {P : D → Prop} {tg : Tg} {f : EF} {sg : Sg} {ck : Sto → Prop} (hck : ∀ st, ck st) (B : Int) (hc : 0 ≤ c) :
    ∀ (l : List D) (st : Sto) (t : Int), Pot st n t → t + c * l.length ≤ B →
    (∀ d ∈ l, ∀ st t, Pot st n t → t + c ≤ B → ∃ sg1, setT tg d sg = some sg1 ∧ ∃ y st', f sg1 st = .ok y st' ∧ P y ∧ Drw n (t + c) st st') →
    ∃ ys st', lcF ck tg tYesD f sg l st = .ok ys st' ∧ ys.length = l.length ∧ (∀ y ∈ ys, P y) ∧ Drw n (t + c * l.length) st st'
  | [], st, t, h, _, _ => ⟨[], st, by simp [lcF, hck], rfl, by simp, by simpa using Drw.refl h⟩
  | d :: l, st, t, h, hB, hf => by
    have e1 : c * ((d :: l).length : Int) = c + c * (l.length : Int) := by
      rw [List.length_cons, Int.natCast_succ, Int.mul_add, Int.mul_one, Int.add_comm]
    have e2 : 0 ≤ c * (l.length : Int) := Int.mul_nonneg hc (by omega)
    rw [e1] at hB
    obtain ⟨sg1, s1, y, st1, f1, p1, d1⟩ := hf d List.mem_cons_self st t h (by omega)
    obtain ⟨ys, st2, f2, l2, p2, d2⟩ := lc_draw (ck := ck) (tg := tg) (f := f) (sg := sg) (P := P) hck B hc l st1 (t + c) d1.pot (by omega) fun x hx => hf x (List.mem_cons_of_mem _ hx)
    refine ⟨y :: ys, st2, ?_, by simp [l2], ?_, ?_⟩
    · unfold lcF
      rw [if_pos (hck _), s1]
      simp [f1, f2]
    · intro z hz
      rcases List.mem_cons.mp hz with rfl | hz
      · exact p1
      · exact p2 z hz
    · rw [e1]
      exact (d1.trans d2).le (by omega)
theorem rng_len (lo : Int) (k : Nat) : (rngD lo k).length = k := by simp [rngD]
/-- an item of a list at a drawn place -/
theorem get_in {l : List D} {r : Int} (h0 : 0 ≤ r) (h : r < l.length) : ∃ d ∈ l, l[r.toNat]? = some d := by
  have hl : r.toNat < l.length := by omega
  exact ⟨l[r.toNat], List.getElem_mem _, List.getElem?_eq_getElem hl⟩
/-- a store of pure things -/
def PuS (st : Sto) : Prop := st.all soPu = true
theorem PuS.nil : PuS [] := rfl
theorem PuS.append {a b : Sto} (h : PuS a) (k : PuS b) : PuS (a ++ b) := by unfold PuS; rw [List.all_append, h, k]; rfl
theorem Pot.pu {st : Sto} {n : Nat} {t : Int} (h : Pot st n t) : ∃ o, st[n]? = some o ∧ soPu o = true := by
  obtain ⟨p, c, u, h1, _⟩ := h
  exact ⟨_, h1, rfl⟩
theorem Drw.pus {n : Nat} {t : Int} {a b : Sto} (h : Drw n t a b) (k : PuS a) : PuS b := by
  refine List.all_eq_true.mpr fun x hx => ?_
  obtain ⟨i, hi⟩ := List.getElem?_of_mem hx
  by_cases z : i = n
  · subst z
    obtain ⟨o, h1, h2⟩ := h.pot.pu
    rw [h1] at hi
    cases hi
    exact h2
  · rw [h.oth i z] at hi
    exact List.all_eq_true.mp k x (List.mem_of_getElem? hi)
theorem cut_ok {F : FF} {ds : List D} {st st2 : Sto} {d : D} (h : F ds st = .ok d st2) (hd : pu d = true) (hp : PuS (st2.take st.length)) : cutF F ds st = .ok d (st2.take st.length) := by
  unfold cutF
  rw [h]
  exact if_pos ⟨hd, hp⟩
theorem frz_ok {F : FF} {ds : List D} {st st2 : Sto} {n : Nat} {l : List D} (h : F ds st = .ok (.loc n) st2) (hn : st.length ≤ n) (hl : st2[n]? = some (.lst l)) (hd : pus l = true) (hp : PuS (st2.take st.length)) : frzF F ds st = .ok (.lst l) (st2.take st.length) := by
  unfold frzF
  rw [h]
  simp only [hl, hd, if_true]
  exact if_pos ⟨hn, hp⟩
theorem take_app {a b : Sto} : (a ++ b).take a.length = a := by simp
/-- whole numbers -/
def intI (l : List Int) : List D := l.map D.int
theorem intI_pus (l : List Int) : pus (intI l) = true := by
  induction l with
  | nil => rfl
  | cons a r ih => exact ih
theorem intI_flat (l : List Int) : (intI l).all dFlat = true := by
  induction l with
  | nil => rfl
  | cons a r ih => exact ih
theorem intI_mem {l : List Int} {x : Int} : ((intI l).any fun y => dEqv y (.int x)) = decide (x ∈ l) := by
  induction l with
  | nil => simp [intI]
  | cons a r ih =>
    show (dEqv (.int a) (.int x) || (intI r).any fun y => dEqv y (.int x)) = _
    rw [ih]
    have : dEqv (.int a) (.int x) = decide (a = x) := by
      by_cases h : a = x <;> simp [dEqv, h]
    rw [this, ← Bool.decide_or]
    exact decide_eq_decide.mpr ⟨fun h => h.elim (fun e => e ▸ List.mem_cons_self) (List.mem_cons_of_mem _), fun h => (List.mem_cons.mp h).imp Eq.symm id⟩
theorem in_tup (l : List Int) (x : Int) (neg : Bool) (st : Sto) : dInL neg (.int x) (.tup (intI l)) st = .ok (.bl (if neg then !(decide (x ∈ l)) else decide (x ∈ l))) st := by
  rw [dInL_tup rfl (intI_flat l), intI_mem]
theorem in_lst (l : List Int) (x : Int) (neg : Bool) (st : Sto) : dInL neg (.int x) (.lst (intI l)) st = .ok (.bl (if neg then !(decide (x ∈ l)) else decide (x ∈ l))) st := by
  rw [dInL_lst rfl (intI_flat l), intI_mem]
theorem ints_of : ∀ l : List Int, intsD (intI l) = some l
  | [] => rfl
  | a :: r => by
    have ih := ints_of r
    unfold intI at ih ⊢
    rw [List.map_cons]
    unfold intsD
    rw [ih]
    rfl
theorem intI_srt {l : List Int} (hl : l.length ≤ 1000000) : srtOk (intI l) := by
  have mp : (intI l).map pyD = l.map fun v => .int v := by
    unfold intI
    rw [List.map_map]
    rfl
  refine ⟨⟨l.map fun v => .int v, ?_⟩, ?_, ?_, ?_, ?_⟩
  · unfold intI
    clear mp hl
    induction l with
    | nil => rfl
    | cons a r ih => simp only [List.map_cons]; unfold toPys; rw [ih]; rfl
  · rw [mp]
    exact PySem.W.AllAlike.of fun a b => by simp [PySem.W.alike]
  · rw [mp]
    exact PySem.W.Sortable.others fun a => ⟨by simp, fun xs => by simp⟩
  · intro x hx
    unfold intI at hx
    obtain ⟨kv, _, rfl⟩ := List.mem_map.mp hx
    exact Nat.zero_le _
  · simp [intI]; omega
theorem le_int (p q : Int) : PySem.W.dataLe false pyD (.int p) (.int q) = decide (p ≤ q) := by
  rw [PySem.W.dataLe_eq]
  show (!PySem.W.dataLt (.int q) (.int p)) = _
  rw [PySem.W.dataLt_int]
  by_cases e : q < p
  · simp [e]
  · simp [e]
    omega
theorem srt_ints (l : List Int) : srtD (intI l) = intI (L2.srtI l) := by
  unfold srtD intI L2.srtI
  rw [List.map_mergeSort]
  intro a _ b _
  rw [le_int]
end Law
/-! periods, plainly -/
namespace Law
def Prm (q : Nat) : Prop := 2 ≤ q ∧ ∀ d, 2 ≤ d → d ∣ q → d = q
theorem prm_mul {q p a : Nat} (hq : Prm q) (hp : Prm p) (hne : q ≠ p) (h : q ∣ a * p) : q ∣ a := by
  have g0 : 0 < Nat.gcd q p := Nat.gcd_pos_of_pos_left _ (by have := hq.1; omega)
  have g1 : Nat.gcd q p = 1 := by
    by_cases c : Nat.gcd q p = 1
    · exact c
    · have e1 := hq.2 _ (by omega) (Nat.gcd_dvd_left q p)
      have e2 := Nat.gcd_dvd_right q p
      rw [e1] at e2
      exact absurd (hp.2 q hq.1 e2) hne
  exact Nat.Coprime.dvd_of_dvd_mul_right g1 h
theorem prm_ex : ∀ (k n : Nat), n ≤ k → 2 ≤ n → ∃ q, Prm q ∧ q ∣ n
  | 0, n, h, h2 => by omega
  | k + 1, n, h, h2 => by
    by_cases c : ∃ d, 2 ≤ d ∧ d < n ∧ d ∣ n
    · obtain ⟨d, d1, d2, d3⟩ := c
      obtain ⟨q, hq, hd⟩ := prm_ex k d (by omega) d1
      exact ⟨q, hq, Nat.dvd_trans hd d3⟩
    · refine ⟨n, ⟨h2, fun d d1 d2 => ?_⟩, Nat.dvd_refl _⟩
      by_cases e : d = n
      · exact e
      · exact absurd ⟨d, d1, Nat.lt_of_le_of_ne (Nat.le_of_dvd (by omega) d2) e, d2⟩ c
def IsP (f : Nat → Bool) (d : Nat) : Prop := ∀ i, f (i + d) = f i
theorem IsP.mul {f : Nat → Bool} {d : Nat} (h : IsP f d) : ∀ k, IsP f (d * k)
  | 0 => fun i => rfl
  | k + 1 => fun i => by
    rw [Nat.mul_succ, ← Nat.add_assoc, h (i + d * k)]
    exact h.mul k i
theorem IsP.md {f : Nat → Bool} {d : Nat} (h : IsP f d) (i : Nat) : f i = f (i % d) := by
  have := h.mul (i / d) (i % d)
  rw [Nat.mod_add_div] at this
  exact this
theorem IsP.gcd {f : Nat → Bool} : ∀ (a b : Nat), IsP f a → IsP f b → IsP f (Nat.gcd a b) := by
  intro a b
  induction a, b using Nat.gcd.induction with
  | H0 n => intro _ h; rw [Nat.gcd_zero_left]; exact h
  | H1 m n hm ih =>
    intro h1 h2
    rw [Nat.gcd_rec]
    refine ih (fun i => ?_) h1
    have e := h1.mul (n / m) (i + n % m)
    rw [Nat.add_assoc, Nat.mod_add_div, h2 i] at e
    exact e.symm
/-- the least one, as far as primes tell -/
structure Lst (f : Nat → Bool) (d : Nat) : Prop where
  d1 : 1 ≤ d
  go : IsP f d
  mn : ∀ q, Prm q → q ∣ d → ¬ IsP f (d / q)
theorem Lst.dvd {f : Nat → Bool} {d g : Nat} (h : Lst f d) (hg : IsP f g) (hd : g ∣ d) : g = d := by
  obtain ⟨k, rfl⟩ := hd
  by_cases c : k = 1
  · rw [c, Nat.mul_one]
  · have := h.d1
    have k0 : k ≠ 0 := fun z => by subst z; rw [Nat.mul_zero] at this; omega
    obtain ⟨q, hq, r, rfl⟩ := prm_ex k k (Nat.le_refl _) (by omega)
    refine absurd ?_ (h.mn q hq ⟨g * r, by rw [Nat.mul_left_comm]⟩)
    have e : g * (q * r) / q = g * r := by
      rw [Nat.mul_left_comm]
      exact Nat.mul_div_cancel_left _ (by have := hq.1; omega)
    rw [e]
    exact hg.mul r
theorem Lst.uniq {f : Nat → Bool} {d e : Nat} (h : Lst f d) (k : Lst f e) : d = e := by
  have g := IsP.gcd d e h.go k.go
  rw [← h.dvd g (Nat.gcd_dvd_left d e)]
  exact k.dvd g (Nat.gcd_dvd_right d e)
theorem Lst.all {f : Nat → Bool} {d e : Nat} (h : Lst f d) (k : IsP f e) : d ∣ e := by
  have g := IsP.gcd d e h.go k
  rw [← h.dvd g (Nat.gcd_dvd_left d e)]
  exact Nat.gcd_dvd_right d e
/-- the same in a list of flags -/
def Go (fs : List Bool) (d : Nat) : Prop := ∀ i, i + d < fs.length → fs[i + d]? = fs[i]?
theorem Go.at_ {fs : List Bool} {d : Nat} (h : Go fs d) : ∀ (k i : Nat), i + k * d < fs.length → fs[i + k * d]? = fs[i]?
  | 0, i, _ => by rw [Nat.zero_mul, Nat.add_zero]
  | k + 1, i, hi => by
    rw [Nat.succ_mul, ← Nat.add_assoc] at hi ⊢
    rw [h (i + k * d) hi]
    exact h.at_ k i (by omega)
theorem Go.mul {fs : List Bool} {d : Nat} (h : Go fs d) (k : Nat) : Go fs (k * d) := fun i hi => h.at_ k i hi
theorem go_iff {fs : List Bool} {q : Nat} (hq : q ≤ fs.length) : fs.drop q = fs.take (fs.length - q) ↔ Go fs q := by
  constructor
  · intro h i hi
    have e1 : (fs.drop q)[i]? = fs[q + i]? := List.getElem?_drop
    have e2 : (fs.take (fs.length - q))[i]? = fs[i]? := List.getElem?_take_of_lt (by omega)
    rw [h, e2] at e1
    rw [Nat.add_comm i q]
    exact e1.symm
  · intro h
    refine List.ext_getElem? fun i => ?_
    by_cases c : i + q < fs.length
    · rw [List.getElem?_drop, List.getElem?_take_of_lt (by omega), Nat.add_comm q i]
      exact h i c
    · rw [List.getElem?_eq_none (by rw [List.length_drop]; omega), List.getElem?_eq_none (by rw [List.length_take]; omega)]
theorem go_fun {f : Nat → Bool} {L a : Nat} (hL : 1 ≤ L) (h : IsP f L) (ha : a ∣ L) : Go ((List.range L).map f) a ↔ IsP f a := by
  have at_ : ∀ i, i < L → ((List.range L).map f)[i]? = some (f i) := fun i hi => by
    rw [List.getElem?_map, List.getElem?_range hi]
    rfl
  have ln : ((List.range L).map f).length = L := by simp
  constructor
  · intro g i
    have i1 : i % L < L := Nat.mod_lt _ (by omega)
    have e1 : f i = f (i % L) := h.md i
    have al := Nat.le_of_dvd (by omega) ha
    have e2 : f (i + a) = f (i % L + a) := by
      rw [h.md (i + a), h.md (i % L + a), Nat.add_mod i a L, Nat.add_mod (i % L) a L, Nat.mod_mod]
    rw [e1, e2]
    by_cases c : i % L + a < L
    · have := g (i % L) (by rw [ln]; exact c)
      rw [at_ _ c, at_ _ i1] at this
      exact Option.some.inj this
    · -- back by a whole number of steps
      obtain ⟨k, hk⟩ := ha
      have k1 : 1 ≤ k := by
        cases k with
        | zero => omega
        | succ k => omega
      have e3 : f (i % L + a) = f (i % L + a - L) := by
        have := h (i % L + a - L)
        rw [Nat.sub_add_cancel (by omega)] at this
        exact this
      rw [e3]
      have kk : (k - 1) * a = L - a := by
        rw [Nat.sub_mul, Nat.one_mul, hk, Nat.mul_comm k a]
      have := g.at_ (k - 1) (i % L + a - L) (by rw [ln, kk]; omega)
      rw [kk, show i % L + a - L + (L - a) = i % L by omega, at_ _ i1, at_ _ (by omega)] at this
      exact (Option.some.inj this).symm
  · intro g i hi
    rw [ln] at hi
    rw [at_ _ hi, at_ _ (by omega), g i]
end Law
/-! sets of distances: divisors, the least period -/
namespace Law
open PySem Sh
def intsL (l : List Nat) : List D := l.map fun (n : Nat) => D.int (n : Int)
theorem pd_in {st : Sto} {x1 : Option D} {p : Nat} (hpp : Prm p) (hp : 2 ≤ p) (hp2 : p ≤ 1000000) : ∀ (k n more : Nat), 1 ≤ n → n ≤ k → n ≤ 1000000 →
    ∃ n' : Nat, 1 ≤ n' ∧ n' ≤ n ∧ n' ∣ n ∧ ¬ p ∣ n' ∧ (∀ q, Prm q → q ≠ p → q ∣ n → q ∣ n') ∧ whF (tOfE (fBin dEq (fBin dMod (fVar 0) (fVar 2)) (fC (.int 0)))) b_prime_divisors_0 (k + 1 + more) [some (.int n), x1, some (.int p)] st = .nx [some (.int n'), x1, some (.int p)] st
  | 0, n, more, h1, h2, _ => by omega
  | k + 1, n, more, h1, h2, h3 => by
    have pp : (0 : Int) < p := by omega
    have em : ((n : Int) % (p : Int)) = ((n % p : Nat) : Int) := (Int.natCast_emod n p).symm
    rw [show k + 1 + 1 + more = (k + 1 + more) + 1 by omega, wh_step]
    by_cases c : n % p = 0
    · have dv : divOk (p : Int) := Bd.divOk (n := 60) (Bd.of (by omega) (by omega)) (by decide)
      have ed : (n : Int) / (p : Int) = ((n / p : Nat) : Int) := (Int.natCast_ediv n p).symm
      have pd : p ∣ n := Nat.dvd_of_mod_eq_zero c
      have lt : n / p < n := Nat.div_lt_self (by omega) (by omega)
      have ge : 1 ≤ n / p := Nat.div_pos (Nat.le_of_dvd (by omega) pd) (by omega)
      obtain ⟨n', a1, a2, a3, a4, a5, e⟩ := pd_in (st := st) (x1 := x1) hpp hp hp2 k (n / p) more ge (by omega) (by omega)
      refine ⟨n', a1, by omega, Nat.dvd_trans a3 (Nat.div_dvd_of_dvd pd), a4, fun q hq hne hd => a5 q hq hne (prm_mul hq hpp hne (by rw [Nat.div_mul_cancel pd]; exact hd)), ?_⟩
      have c0 : ((n % p : Nat) : Int) = 0 := by omega
      rw [c0] at em
      generalize ((n / p : Nat) : Int) = Q at *
      generalize (n' : Int) = N' at *
      generalize (p : Int) = P at *
      generalize (n : Int) = N at *
      simp -implicitDefEqProofs [pp, em, at_b_prime_divisors_0, dv, ed, e]
    · refine ⟨n, h1, Nat.le_refl _, Nat.dvd_refl _, fun z => c (Nat.mod_eq_zero_of_dvd z), fun _ _ _ z => z, ?_⟩
      have c0 : ¬ ((n : Int) % (p : Int)) = 0 := by rw [em]; omega
      generalize (p : Int) = P at *
      generalize (n : Int) = N at *
      simp -implicitDefEqProofs [pp, c0]
theorem pd_out {st : Sto} {N : Nat} : ∀ (k n p more : Nat) (ps : List Nat), 1 ≤ n → n ≤ 1000000 → 2 ≤ p → p ≤ 1000001 → (∀ q, 2 ≤ q → q < p → ¬ q ∣ n) → n + 1 ≤ p + k → (∀ q ∈ ps, 2 ≤ q ∧ q ≤ 1000000) → ps.length + k ≤ 2000000 → (∀ q, Prm q → q ∣ N → q ∈ ps ∨ q ∣ n) →
    ∃ (n' p' : Nat) (ps' : List Nat), whF (tOfE (fBin dGt (fVar 0) (fC (.int 1)))) b_prime_divisors_1 (k + 1 + more) [some (.int n), some (.loc st.length), some (.int p)] (st ++ [.lst (intsL ps)]) = .nx [some (.int n'), some (.loc st.length), some (.int p')] (st ++ [.lst (intsL ps')]) ∧ (∀ q ∈ ps', 2 ≤ q ∧ q ≤ 1000000) ∧ ps'.length ≤ ps.length + k ∧ (∀ q, Prm q → q ∣ N → q ∈ ps')
  | k, n, p, more, ps, h1, h2, h3, h3', h4, h5, h6, h7, h8 => by
    rw [show k + 1 + more = (k + more) + 1 by omega, wh_step]
    by_cases c : n = 1
    · subst c
      refine ⟨1, p, ps, ?_, h6, by omega, fun q hq hd => (h8 q hq hd).elim id fun z => by have := Nat.le_of_dvd (by omega) z; have := hq.1; omega⟩
      simp -implicitDefEqProofs
    · have pn : p ≤ n := Nat.not_lt.mp fun z => h4 n (by omega) z (Nat.dvd_refl n)
      match k, h5, h7 with
      | 0, h5, _ => omega
      | k + 1, h5, h7 =>
        have cg : (1 : Int) < n := by omega
        have pp : (0 : Int) < p := by omega
        have em : ((n : Int) % (p : Int)) = ((n % p : Nat) : Int) := (Int.natCast_emod n p).symm
        have c1 : ((p : Int) + 1) = ((p + 1 : Nat) : Int) := by omega
        by_cases d : n % p = 0
        · have pd : p ∣ n := Nat.dvd_of_mod_eq_zero d
          obtain ⟨more2, hm⟩ := fuel_eq (m := n + 1) (Nat.le_trans (show n + 1 ≤ 2 ^ 30 by omega) (Nat.pow_le_pow_right (by decide) (by decide)))
          have hpp : Prm p := ⟨h3, fun d d1 d2 => by
            have := Nat.le_of_dvd (by omega) d2
            by_cases z : d = p
            · exact z
            · exact absurd (Nat.dvd_trans d2 pd) (h4 d d1 (by omega))⟩
          obtain ⟨n', a1, a2, a3, a4, a5, e⟩ := pd_in (st := st ++ [.lst (intsL (ps ++ [p]))]) (x1 := some (.loc st.length)) (p := p) hpp h3 (by omega) n n more2 h1 (Nat.le_refl _) h2
          rw [← hm] at e
          obtain ⟨n2, p2, ps2, e2, b1, b2, b3⟩ := pd_out (st := st) (N := N) k n' (p + 1) more (ps ++ [p]) a1 (by omega) (by omega) (by omega) (fun q q1 q2 qd => by
            by_cases z : q = p
            · subst z; exact a4 qd
            · exact h4 q q1 (by omega) (Nat.dvd_trans qd a3)) (by omega) (fun q hq => by
            rcases List.mem_append.mp hq with hq | hq
            · exact h6 q hq
            · have : q = p := by simpa using hq
              omega) (by rw [List.length_append, List.length_singleton]; omega) (fun q hq hd => by
            by_cases z : q = p
            · exact .inl (List.mem_append_right _ (by rw [z]; exact List.mem_singleton_self _))
            · exact (h8 q hq hd).imp (List.mem_append_left _) (a5 q hq z))
          rw [List.length_append, List.length_singleton] at b2
          refine ⟨n2, p2, ps2, ?_, b1, by omega, b3⟩
          have c0 : ((n % p : Nat) : Int) = 0 := by omega
          rw [c0] at em
          have hs : (st ++ [SO.lst (intsL ps)])[st.length]? = some (.lst (intsL ps)) := by rw [List.getElem?_append_right (Nat.le_refl _), Nat.sub_self]; rfl
          have hset : (st ++ [SO.lst (intsL ps)]).set st.length (.lst (intsL ps ++ [.int p])) = st ++ [.lst (intsL (ps ++ [p]))] := by
            have : intsL (ps ++ [p]) = intsL ps ++ [.int p] := by unfold intsL; rw [List.map_append]; rfl
            rw [this]
            simp
          have zl : (intsL ps).length < 16777216 := by unfold intsL; rw [List.length_map]; omega
          have ap : mApp (.loc st.length) [.int p] (st ++ [.lst (intsL ps)]) = .ok .non (st ++ [.lst (intsL (ps ++ [p]))]) := by
            unfold mApp
            simp only [hs, zl, if_true, hset]
          rw [show k + 1 + more = k + 1 + more from rfl]
          generalize st ++ [SO.lst (intsL (ps ++ [p]))] = S2 at *
          generalize hS1 : st ++ [SO.lst (intsL ps)] = S1 at *
          generalize hw : whF (tOfE (fBin dGt (fVar 0) (fC (.int 1)))) b_prime_divisors_1 (k + 1 + more) = WH at *
          have bb : b_prime_divisors_1 [some (.int n), some (.loc st.length), some (.int p)] S1 = .nx [some (.int n'), some (.loc st.length), some (.int (p + 1 : Nat))] S2 := by
            rw [at_b_prime_divisors_1, ← c1]
            generalize (p : Int) = P at *
            generalize (n : Int) = N at *
            simp -implicitDefEqProofs [pp, em, hs, ap, sWhile, e]
          simp -implicitDefEqProofs [cg, bb, hw]
          exact e2
        · obtain ⟨n2, p2, ps2, e2, b1, b2, b3⟩ := pd_out (st := st) (N := N) k n (p + 1) more ps h1 h2 (by omega) (by omega) (fun q q1 q2 qd => by
            by_cases z : q = p
            · subst z; exact d (Nat.mod_eq_zero_of_dvd qd)
            · exact h4 q q1 (by omega) qd) (by omega) h6 (by omega) h8
          refine ⟨n2, p2, ps2, ?_, b1, by omega, b3⟩
          have c0 : ¬ ((n : Int) % (p : Int)) = 0 := by rw [em]; omega
          generalize hS1 : st ++ [SO.lst (intsL ps)] = S1 at *
          generalize hw : whF (tOfE (fBin dGt (fVar 0) (fC (.int 1)))) b_prime_divisors_1 (k + 1 + more) = WH at *
          have bb : b_prime_divisors_1 [some (.int n), some (.loc st.length), some (.int p)] S1 = .nx [some (.int n), some (.loc st.length), some (.int (p + 1 : Nat))] S1 := by
            rw [at_b_prime_divisors_1, ← c1]
            generalize (p : Int) = P at *
            generalize (n : Int) = N at *
            simp -implicitDefEqProofs [pp, c0]
          simp -implicitDefEqProofs [cg, bb, hw]
          exact e2
theorem primes_ok {n : Nat} (h1 : 1 ≤ n) (h2 : n ≤ 1000000) (st : Sto) : ∃ ps : List Nat, F_prime_divisors [.int n] st = .ok (.loc st.length) (st ++ [.lst (intsL ps)]) ∧ (∀ q ∈ ps, 2 ≤ q ∧ q ≤ 1000000) ∧ ps.length ≤ n ∧ ∀ q, Prm q → q ∣ n → q ∈ ps := by
  obtain ⟨more, hm⟩ := fuel_eq (m := n + 1) (Nat.le_trans (show n + 1 ≤ 2 ^ 30 by omega) (Nat.pow_le_pow_right (by decide) (by decide)))
  obtain ⟨n', p', ps, e, a1, a2, a3⟩ := pd_out (st := st) (N := n) n n 2 more [] h1 h2 (by omega) (by omega) (fun q q1 q2 => by omega) (by omega) (fun _ h => by cases h) (by simp; omega) (fun _ _ h => .inr h)
  rw [← hm] at e
  refine ⟨ps, ?_, a1, by simpa using a2, a3⟩
  have e' : whF (tOfE (fBin dGt (fVar 0) (fC (.int 1)))) b_prime_divisors_1 fuel [some (.int n), some (.loc st.length), some (.int 2)] (st ++ [.lst []]) = .nx [some (.int n'), some (.loc st.length), some (.int p')] (st ++ [.lst (intsL ps)]) := e
  generalize st ++ [SO.lst (intsL ps)] = S2 at *
  simp -implicitDefEqProofs [F_prime_divisors, g_prime_divisors, sWhile, e']
end Law
namespace Law
open PySem Sh
theorem cut_take {l : List D} (i : Nat) : cutD l none (some (i : Int)) = l.take i := by
  unfold cutD
  rw [HT.sIx_nat]
  simp [HT.sIx]
theorem cut_drop {l : List D} (i : Nat) : cutD l (some (i : Int)) none = l.drop i := by
  unfold cutD
  rw [HT.sIx_nat]
  simp only [HT.sIx]
  rw [List.take_of_length_le (by simp)]
  by_cases h : i ≤ l.length
  · rw [Nat.min_eq_left h]
  · rw [Nat.min_eq_right (by omega)]; simp; omega
end Law
/-! sets of distances: the least period, the sums -/
namespace Law
open PySem Sh
def blsL (fs : List Bool) : List D := fs.map D.bl
theorem bls_py : ∀ fs : List Bool, Sh.pys (blsL fs) = true
  | [] => rfl
  | b :: r => by
    have := bls_py r
    unfold blsL at this ⊢
    rw [List.map_cons]
    simpa [Sh.pys, py] using this
theorem bls_eqv : ∀ a b : List Bool, dEqvs (blsL a) (blsL b) = decide (a = b)
  | [], [] => rfl
  | [], y :: s => by simp [blsL, dEqvs]
  | x :: r, [] => by simp [blsL, dEqvs]
  | x :: r, y :: s => by
    have ih := bls_eqv r s
    show (dEqv (.bl x) (.bl y) && dEqvs (blsL r) (blsL s)) = _
    rw [ih, show dEqv (.bl x) (.bl y) = (x == y) from by cases x <;> cases y <;> rfl]
    cases x <;> cases y <;> simp
theorem bls_dep : ∀ fs : List Bool, dep (.lst (blsL fs)) ≤ 1 := fun fs => by
  have : Sh.deps (blsL fs) = 0 := by
    induction fs with
    | nil => rfl
    | cons b r ih =>
      unfold blsL at ih ⊢
      rw [List.map_cons]
      simpa [Sh.deps, dep] using ih
  simp [dep, this]
theorem periodic_ok {fs : List Bool} {q : Nat} (hq : q ≤ fs.length) (hl : fs.length ≤ 1000000) (st : Sto) : F_is_periodic [.lst (blsL fs), .int q] st = .ok (.bl (decide (fs.drop q = fs.take (fs.length - q)))) st := by
  have e1 : cutD (blsL fs) (some (q : Int)) none = blsL (fs.drop q) := by
    have := cut_drop (l := blsL fs) q
    rw [this]
    unfold blsL
    rw [List.map_drop]
  have e2 : cutD (blsL fs) none (some (((fs.length - q : Nat)) : Int)) = blsL (fs.take (fs.length - q)) := by
    have := cut_take (l := blsL fs) (fs.length - q)
    rw [this]
    unfold blsL
    rw [List.map_take]
  have de : ∀ a b : List Bool, ∀ st, dEq (.lst (blsL a)) (.lst (blsL b)) st = .ok (.bl (decide (a = b))) st := fun a b st => by
    rw [dEq_py st (by show Sh.pys (blsL a) = true; exact bls_py a) (by show Sh.pys (blsL b) = true; exact bls_py b) (by have := bls_dep a; omega)]
    show Res.ok (D.bl (dEqvs (blsL a) (blsL b))) st = _
    rw [bls_eqv]
  have ln : (blsL fs).length = fs.length := List.length_map _
  have tz : (fs.length : Int) < 9223372036854775808 := by omega
  have sb : (fs.length : Int) - (q : Int) = ((fs.length - q : Nat) : Int) := by omega
  have de := de (fs.drop q) (fs.take (fs.length - q)) st
  have q0 : -4611686018427387904 ≤ (q : Int) ∧ (q : Int) < 4611686018427387904 := by omega
  have q1 : -4611686018427387904 ≤ ((fs.length - q : Nat) : Int) ∧ ((fs.length - q : Nat) : Int) < 4611686018427387904 := by omega
  generalize blsL (fs.drop q) = DA at *
  generalize blsL (fs.take (fs.length - q)) = DB at *
  generalize decide (fs.drop q = fs.take (fs.length - q)) = BB at *
  generalize ((fs.length - q : Nat) : Int) = LQ at *
  generalize blsL fs = FS at *
  generalize (q : Int) = Q at *
  simp -implicitDefEqProofs [F_is_periodic, g_is_periodic, e1, ln, tz, sb, e2, q0, q1, de]
end Law
/-! sets of distances: the plainest form -/
namespace Law
open PySem Sh
/-- flags that go round in d places -/
structure Per0 (fs : List Bool) (d : Nat) : Prop where
  d1 : 1 ≤ d
  dv : d ∣ fs.length
  go : Go fs d
/-- .. and in no fewer -/
structure Per (fs : List Bool) (d : Nat) : Prop extends Per0 fs d where
  mn : ∀ q, Prm q → q ∣ d → ¬ Go fs (d / q)
theorem Per0.md {fs : List Bool} {d : Nat} (h : Per0 fs d) {i : Nat} (hi : i < fs.length) : fs[i]? = fs[i % d]? := by
  have e := Nat.mod_add_div i d
  have := h.go.at_ (i / d) (i % d) (by rw [Nat.mul_comm, e]; exact hi)
  rw [Nat.mul_comm, e] at this
  exact this
theorem Per.md {fs : List Bool} {d : Nat} (h : Per fs d) {i : Nat} (hi : i < fs.length) : fs[i]? = fs[i % d]? := h.toPer0.md hi
theorem per_all {fs : List Bool} (h : 1 ≤ fs.length) : Per0 fs fs.length := ⟨h, Nat.dvd_refl _, fun i hi => by omega⟩
theorem per_of {fs : List Bool} {q : Nat} (q1 : 1 ≤ q) (h1 : 1 ≤ fs.length) (qd : q ∣ fs.length) (h : fs.drop q = fs.take (fs.length - q)) : Per0 fs q := ⟨q1, qd, (go_iff (Nat.le_of_dvd h1 qd)).mp h⟩
theorem lp_in {fs : List Bool} {st : Sto} {p : Nat} (h1 : 1 ≤ fs.length) (hl : fs.length ≤ 1000000) (hp : 2 ≤ p) (hp2 : p ≤ 1000000) : ∀ (k d more : Nat), Per0 fs d → d ≤ k →
    ∃ d', Per0 fs d' ∧ d' ∣ d ∧ (p ∣ d' → ¬ Go fs (d' / p)) ∧ whF (tAnd' (tOfE (fBin dEq (fBin dMod (fVar 1) (fVar 2)) (fC (.int 0)))) (tTru (fCall (cF F_is_periodic 2 []) (aCons (fVar 0) (aCons (fBin dDiv (fVar 1) (fVar 2)) aNil))))) b_least_period_0 (k + 1 + more) [some (.lst (blsL fs)), some (.int d), some (.int p)] st = .nx [some (.lst (blsL fs)), some (.int d'), some (.int p)] st
  | 0, d, more, h, hk => by have := h.d1; omega
  | k + 1, d, more, h, hk => by
    have pp : (0 : Int) < p := by omega
    have em : ((d : Int) % (p : Int)) = ((d % p : Nat) : Int) := (Int.natCast_emod d p).symm
    have dl : d ≤ fs.length := Nat.le_of_dvd h1 h.dv
    rw [show k + 1 + 1 + more = (k + 1 + more) + 1 by omega, wh_step]
    by_cases c : d % p = 0
    · have dv : divOk (p : Int) := Bd.divOk (n := 60) (Bd.of (by omega) (by omega)) (by decide)
      have ed : (d : Int) / (p : Int) = ((d / p : Nat) : Int) := (Int.natCast_ediv d p).symm
      have pd : p ∣ d := Nat.dvd_of_mod_eq_zero c
      have lt : d / p < d := Nat.div_lt_self h.d1 (by omega)
      have ge : 1 ≤ d / p := Nat.div_pos (Nat.le_of_dvd h.d1 pd) (by omega)
      have po := periodic_ok (fs := fs) (q := d / p) (by omega) hl st
      have c0 : ((d % p : Nat) : Int) = 0 := by omega
      rw [c0] at em
      by_cases e : fs.drop (d / p) = fs.take (fs.length - d / p)
      · obtain ⟨d', a1, a3, a4, a2⟩ := lp_in (st := st) h1 hl hp hp2 k (d / p) more (per_of ge h1 (Nat.dvd_trans (Nat.div_dvd_of_dvd pd) h.dv) e) (by omega)
        refine ⟨d', a1, Nat.dvd_trans a3 (Nat.div_dvd_of_dvd pd), a4, ?_⟩
        rw [decide_eq_true e] at po
        generalize ((d / p : Nat) : Int) = Q at *
        generalize (d' : Int) = D' at *
        generalize (p : Int) = P at *
        generalize (d : Int) = DD at *
        generalize blsL fs = FS at *
        simp -implicitDefEqProofs [pp, em, dv, ed, po, at_b_least_period_0, a2]
      · refine ⟨d, h, Nat.dvd_refl _, fun _ z => e ((go_iff (by omega)).mpr z), ?_⟩
        rw [decide_eq_false e] at po
        generalize ((d / p : Nat) : Int) = Q at *
        generalize (p : Int) = P at *
        generalize (d : Int) = DD at *
        generalize blsL fs = FS at *
        simp -implicitDefEqProofs [pp, em, dv, ed, po]
    · refine ⟨d, h, Nat.dvd_refl _, fun z => absurd (Nat.mod_eq_zero_of_dvd z) c, ?_⟩
      have c0 : ¬ ((d : Int) % (p : Int)) = 0 := by rw [em]; omega
      generalize (p : Int) = P at *
      generalize (d : Int) = DD at *
      generalize blsL fs = FS at *
      simp -implicitDefEqProofs [pp, c0]
theorem least_raw {fs : List Bool} (h1 : 1 ≤ fs.length) (hl : fs.length ≤ 1000000) (st : Sto) : ∃ (d : Nat) (ps : List Nat), fnF 3 g_least_period [.lst (blsL fs)] st = .ok (.int d) (st ++ [.lst (intsL ps)]) ∧ Per fs d := by
  obtain ⟨ps, e1, hp, lp, lq⟩ := primes_ok h1 hl st
  have hq : (st ++ [SO.lst (intsL ps)])[st.length]? = some (.lst (intsL ps)) := by rw [List.getElem?_append_right (Nat.le_refl _), Nat.sub_self]; rfl
  have ln : (blsL fs).length = fs.length := List.length_map _
  have tz : (fs.length : Int) < 9223372036854775808 := by omega
  have lp2 : (intsL ps).length ≤ 16777216 := by unfold intsL; rw [List.length_map]; omega
  generalize hS : st ++ [SO.lst (intsL ps)] = S at *
  obtain ⟨sg', st', e2, d, y2, hsg, hst, pd, mn⟩ := for_toN (ck := fun st' => st'[st.length]? = some (.lst (intsL ps))) (t := .one 2) (g := b_least_period_1) (l := intsL ps) (sg := [some (.lst (blsL fs)), some (.int fs.length), none]) (st := S)
    (fun i sg st' => ∃ (d : Nat) (y : Option D), sg = [some (.lst (blsL fs)), some (.int d), y] ∧ st' = S ∧ Per0 fs d ∧ ∀ j q, j < i → ps[j]? = some q → q ∣ d → ¬ Go fs (d / q))
    ⟨fs.length, none, rfl, rfl, per_all h1, fun j q hj => by omega⟩ (fun i sg st' ⟨_, _, _, e, _⟩ => by rw [e]; exact hq) fun i x sg st1 hx ⟨d, y, hsg, hst, pd, mn⟩ => by
      subst hsg; subst hst
      have hx' : (ps.map fun (n : Nat) => D.int (n : Int))[i]? = some x := hx
      rw [List.getElem?_map] at hx'
      obtain ⟨p, hpi, rfl⟩ := Option.map_eq_some_iff.mp hx'
      refine ⟨_, rfl, ?_⟩
      obtain ⟨p2, p3⟩ := hp p (List.mem_of_getElem? hpi)
      have dl : d ≤ fs.length := Nat.le_of_dvd h1 pd.dv
      obtain ⟨more, hm⟩ := fuel_eq (m := d + 1) (Nat.le_trans (show d + 1 ≤ 2 ^ 30 by omega) (Nat.pow_le_pow_right (by decide) (by decide)))
      obtain ⟨d', a1, a3, a4, a2⟩ := lp_in (st := st1) h1 hl p2 p3 d d more pd (Nat.le_refl _)
      rw [← hm] at a2
      show Flw.to _ (b_least_period_1 [some (.lst (blsL fs)), some (.int d), some (.int p)] st1)
      have bb : b_least_period_1 [some (.lst (blsL fs)), some (.int d), some (.int p)] st1 = .nx [some (.lst (blsL fs)), some (.int d'), some (.int p)] st1 := by
        rw [at_b_least_period_1]
        exact a2
      rw [bb]
      refine ⟨d', some (.int p), rfl, rfl, a1, fun j q hj hq hd g => ?_⟩
      by_cases z : j = i
      · subst z
        rw [hpi] at hq
        cases hq
        exact a4 hd g
      · refine mn j q (by omega) hq (Nat.dvd_trans hd a3) ?_
        obtain ⟨k, hk⟩ := a3
        have q0 : 0 < q := by have := (hp q (List.mem_of_getElem? hq)).1; omega
        obtain ⟨r, hr⟩ := hd
        have e1 : d' / q = r := by rw [hr, Nat.mul_div_cancel_left _ q0]
        have e2 : d / q = k * r := by rw [hk, hr, Nat.mul_assoc, Nat.mul_div_cancel_left _ q0, Nat.mul_comm]
        rw [e2]
        rw [e1] at g
        exact g.mul k
  have pd : Per fs d := ⟨pd, fun q hq hd => by
    obtain ⟨j, hj⟩ := List.getElem?_of_mem (lq q hq (Nat.dvd_trans hd pd.dv))
    have jl := (List.getElem?_eq_some_iff.mp hj).1
    exact mn j q (by unfold intsL; rw [List.length_map]; exact jl) hj hd⟩
  subst hsg; subst hst
  refine ⟨d, ps, ?_, pd⟩
  have e1' : F_prime_divisors [.int fs.length] st = .ok (.loc st.length) st' := e1
  generalize blsL fs = FS at *
  generalize intsL ps = IP at *
  simp -implicitDefEqProofs [g_least_period, ln, tz, e1', hq, lp2, e2, hS]
theorem least_ok {fs : List Bool} (h1 : 1 ≤ fs.length) (hl : fs.length ≤ 1000000) (st : Sto) (hp : PuS st) : ∃ d : Nat, F_least_period [.lst (blsL fs)] st = .ok (.int d) st ∧ Per fs d := by
  obtain ⟨d, ps, e, pd⟩ := least_raw h1 hl st
  have := cut_ok e rfl (by rw [take_app]; exact hp)
  rw [take_app] at this
  exact ⟨d, this, pd⟩
end Law
/-! sets of distances: the sums -/
namespace Law
open PySem Sh
def b2n (b : Bool) : Int := if b then 1 else 0
/-- how many of the flags, from the second one on, round and round -/
def smA (fs : List Bool) : Nat → Int
  | 0 => 0
  | k + 1 => smA fs k + b2n (fs.getD ((k + 1) % fs.length) false)
def smL (fs : List Bool) (k : Nat) : List D := (List.range k).map fun i => .int (smA fs i)
theorem smL_succ (fs : List Bool) (k : Nat) : smL fs (k + 1) = smL fs k ++ [.int (smA fs k)] := by
  unfold smL
  rw [List.range_succ, List.map_append]
  rfl
theorem smL_len (fs : List Bool) (k : Nat) : (smL fs k).length = k := by simp [smL]
theorem ix_last {S : Sto} {q : Nat} {A : List D} {x : D} (h : S[q]? = some (.lst (A ++ [x]))) : dIx (.loc q) (.int (-1)) S = .ok x S := by
  have h1 : (1 : Int) ≤ (A.length : Int) + 1 := by omega
  have h2 : ((-1 : Int) + ((A.length : Int) + 1)).toNat = A.length := by omega
  simp -implicitDefEqProofs [h, h1, h2]
theorem sum_body {FS A : List D} {K R SV : Int} {BV : Bool} {n q : Nat} {S1 S2 : Sto} (ln : FS.length = n) (lp : 0 < n) (tz : (n : Int) < 9223372036854775808) (il : dIx (.loc q) (.int (-1)) S1 = .ok (.int SV) S1) (em : K % (n : Int) = R) (ig : dIx (.lst FS) (.int R) S1 = .ok (.bl BV) S1) (hs : S1[q]? = some (.lst A)) (ap : mApp (.loc q) [.int (SV + b2n BV)] S1 = .ok .non S2) :
    b_sums_of_0 [some (.lst FS), some (.loc q), some (.int K)] S1 = .nx [some (.lst FS), some (.loc q), some (.int K)] S2 := by
  rw [at_b_sums_of_0]
  unfold b2n at ap
  simp -implicitDefEqProofs [-ev_dIx, hs, il, ln, tz, em, lp, ig, ap]
theorem sum_step {fs : List Bool} {st : Sto} {k : Nat} (h1 : 1 ≤ fs.length) (hl : fs.length ≤ 1000000) (hk : k + 1 ≤ fs.length) : b_sums_of_0 [some (.lst (blsL fs)), some (.loc st.length), some (.int (k + 1 : Nat))] (st ++ [.lst (smL fs (k + 1))]) = .nx [some (.lst (blsL fs)), some (.loc st.length), some (.int (k + 1 : Nat))] (st ++ [.lst (smL fs (k + 1 + 1))]) := by
  have ln : (blsL fs).length = fs.length := List.length_map _
  have tz : (fs.length : Int) < 9223372036854775808 := by omega
  have hs : (st ++ [SO.lst (smL fs (k + 1))])[st.length]? = some (.lst (smL fs k ++ [.int (smA fs k)])) := by rw [← smL_succ, List.getElem?_append_right (Nat.le_refl _), Nat.sub_self]; rfl
  have il := ix_last hs
  have lt : (k + 1) % fs.length < fs.length := Nat.mod_lt _ (by omega)
  have em : (((k + 1 : Nat) : Int) % (fs.length : Int)) = (((k + 1) % fs.length : Nat) : Int) := (Int.natCast_emod _ _).symm
  have ig : dIx (.lst (blsL fs)) (.int (((k + 1) % fs.length : Nat) : Int)) (st ++ [.lst (smL fs (k + 1))]) = .ok (.bl (fs.getD ((k + 1) % fs.length) false)) (st ++ [.lst (smL fs (k + 1))]) := by
    have g : (blsL fs)[(k + 1) % fs.length]? = some (.bl (fs.getD ((k + 1) % fs.length) false)) := by
      unfold blsL
      rw [List.getElem?_map, List.getElem?_eq_getElem lt, List.getD_eq_getElem?_getD, List.getElem?_eq_getElem lt]
      rfl
    obtain ⟨gl, ge⟩ := List.getElem?_eq_some_iff.mp g
    generalize (k + 1) % fs.length = R at *
    generalize st ++ [SO.lst (smL fs (k + 1))] = S1
    simp -implicitDefEqProofs [gl, ge]
  have zl : (smL fs k ++ [D.int (smA fs k)]).length < 16777216 := by rw [← smL_succ, smL_len]; omega
  have hset : (st ++ [SO.lst (smL fs (k + 1))]).set st.length (.lst (smL fs k ++ [.int (smA fs k)] ++ [.int (smA fs (k + 1))])) = st ++ [.lst (smL fs (k + 1 + 1))] := by
    rw [smL_succ fs (k + 1), ← smL_succ]
    generalize smL fs (k + 1) = A1
    generalize D.int (smA fs (k + 1)) = V
    rw [List.set_append_right _ _ (Nat.le_refl _), Nat.sub_self]
    rfl
  have ap : mApp (.loc st.length) [.int (smA fs k + b2n (fs.getD ((k + 1) % fs.length) false))] (st ++ [.lst (smL fs (k + 1))]) = .ok .non (st ++ [.lst (smL fs (k + 1 + 1))]) := by
    show mApp (.loc st.length) [.int (smA fs (k + 1))] (st ++ [.lst (smL fs (k + 1))]) = _
    unfold mApp
    simp only [hs, zl, if_true, hset]
  exact sum_body ln h1 tz il em ig hs ap
theorem sum_loop {fs : List Bool} {st : Sto} (h1 : 1 ≤ fs.length) (hl : fs.length ≤ 1000000) : ∀ (n k : Nat) (y : Option D), k + n ≤ fs.length → ∃ y', forF (fun _ => True) (.one 2) b_sums_of_0 ((rngD (k + 1 : Nat) n)) [some (.lst (blsL fs)), some (.loc st.length), y] (st ++ [.lst (smL fs (k + 1))]) = .nx [some (.lst (blsL fs)), some (.loc st.length), y'] (st ++ [.lst (smL fs (k + n + 1))])
  | 0, k, y, _ => ⟨y, by simp [rngD, forF]⟩
  | n + 1, k, y, hk => by
    obtain ⟨y', e⟩ := sum_loop (st := st) h1 hl n (k + 1) (some (.int (k + 1 : Nat))) (by omega)
    refine ⟨y', ?_⟩
    have rc : rngD (k + 1 : Nat) (n + 1) = .int (k + 1 : Nat) :: rngD (k + 1 + 1 : Nat) n := by
      unfold rngD
      rw [List.range_succ_eq_map, List.map_cons, List.map_map]
      simp
      intro a _
      omega
    rw [rc, for_cons trivial (show setT (.one 2) (.int (k + 1 : Nat)) [some (.lst (blsL fs)), some (.loc st.length), y] = some [some (.lst (blsL fs)), some (.loc st.length), some (.int (k + 1 : Nat))] from rfl), sum_step h1 hl (by omega)]
    have : k + (n + 1) + 1 = k + 1 + n + 1 := by omega
    rw [this]
    exact e
theorem sums_rng {FS : List D} {n : Nat} {S : Sto} {y : Option D} {x : D} (ln : FS.length = n) (hl : n ≤ 1000000) : iRange2 (aCons (fC (.int 1)) (aCons (fBin dAdd (fCall bLen (aCons (fVar 0) aNil)) (fC (.int 1))) aNil)) [some (.lst FS), some x, y] S = .ok ⟨rngD 1 n, fun _ => True⟩ S := by
  have tz : (n : Int) < 9223372036854775808 := by omega
  have rl : (rngD 1 n).length ≤ 16777216 := by rw [rng_len]; omega
  have hb : -4611686018427387904 ≤ (n : Int) + 1 ∧ (n : Int) + 1 < 4611686018427387904 := by omega
  have tn : ((n : Int) + 1 - 1).toNat = n := by omega
  generalize hR : rngD 1 n = R at *
  simp -implicitDefEqProofs [ln, tz, hb, tn, hR, rl]
theorem new1 (x : D) (sg : Sg) (st : Sto) : fNew (aCons (fC x) aNil) sg st = .ok (.loc st.length) (st ++ [.lst [x]]) := by
  show (if [x].length ≤ 16777216 then Res.ok (D.loc st.length) (st ++ [.lst [x]]) else .bad) = _
  rw [if_pos (Nat.le_of_ble_eq_true rfl)]
theorem sums_gen {FS : List D} {n : Nat} {st S2 : Sto} {y' : Option D} {G : IF} {NW : EF} (nw : ∀ sg st, NW sg st = .ok (.loc st.length) (st ++ [.lst [.int 0]])) (r : G [some (.lst FS), some (.loc st.length), none] (st ++ [.lst [.int 0]]) = .ok ⟨rngD 1 n, fun _ => True⟩ (st ++ [.lst [.int 0]])) (e : forF (fun _ => True) (.one 2) b_sums_of_0 (rngD 1 n) [some (.lst FS), some (.loc st.length), none] (st ++ [.lst [.int 0]]) = .nx [some (.lst FS), some (.loc st.length), y'] S2) : fnF 3 (sSeq (sSet 1 NW) (sSeq (sFor G (.one 2) b_sums_of_0) (sRet (fVar 1)))) [.lst FS] st = .ok (.loc st.length) S2 := by
  have s1 : sSet 1 NW [some (.lst FS), none, none] st = .nx [some (.lst FS), some (.loc st.length), none] (st ++ [.lst [.int 0]]) := by
    simp -implicitDefEqProofs [nw]
  have s2 : sFor G (.one 2) b_sums_of_0 [some (.lst FS), some (.loc st.length), none] (st ++ [.lst [.int 0]]) = .nx [some (.lst FS), some (.loc st.length), y'] S2 := by
    unfold sFor
    rw [r]
    exact e
  generalize sSet 1 NW = A1 at s1 ⊢
  generalize sFor G (.one 2) b_sums_of_0 = A2 at s2 ⊢
  simp -implicitDefEqProofs [s1, s2]
theorem sums_raw {fs : List Bool} (h1 : 1 ≤ fs.length) (hl : fs.length ≤ 1000000) (st : Sto) : fnF 3 g_sums_of [.lst (blsL fs)] st = .ok (.loc st.length) (st ++ [.lst (smL fs (fs.length + 1))]) := by
  obtain ⟨y', e⟩ := sum_loop (st := st) h1 hl fs.length 0 none (by omega)
  have s0 : smL fs (0 + 1) = [.int 0] := rfl
  rw [s0, show 0 + fs.length + 1 = fs.length + 1 by omega] at e
  have r := sums_rng (FS := blsL fs) (S := st ++ [.lst [.int 0]]) (y := none) (x := .loc st.length) (List.length_map _) hl
  unfold g_sums_of
  generalize st ++ [SO.lst (smL fs (fs.length + 1))] = S2 at e ⊢
  generalize blsL fs = FS at e r ⊢
  generalize fs.length = n at e r 
  exact sums_gen (fun sg st => new1 _ _ _) r e
theorem smL_pus (fs : List Bool) : ∀ k, pus (smL fs k) = true := fun k => by
  have : smL fs k = intI ((List.range k).map (smA fs)) := by
    unfold smL intI
    rw [List.map_map]
    rfl
  rw [this]
  exact intI_pus _
theorem sums_ok {fs : List Bool} (h1 : 1 ≤ fs.length) (hl : fs.length ≤ 1000000) (st : Sto) (hp : PuS st) : F_sums_of [.lst (blsL fs)] st = .ok (.lst (smL fs (fs.length + 1))) st := by
  have e := sums_raw h1 hl st
  have := frz_ok e (Nat.le_refl _) (by rw [List.getElem?_append_right (Nat.le_refl _), Nat.sub_self]; rfl) (smL_pus fs _) (by rw [take_app]; exact hp)
  rw [take_app] at this
  exact this
end Law
/-! sets of distances: made -/
namespace Law
open PySem Sh
noncomputable def flagsOf (m : Nat) (cs : List Int) : List Bool := (List.range m).map fun (r : Nat) => decide ((r : Int) ∈ cs)
def plainD (p : Nat) (gs : List Bool) (ss : List Int) : D := .ins 1 [.int p, .lst (blsL gs), .tup (intI ss), .lst (smL gs (p + 1))]
theorem bls_pus (fs : List Bool) : pus (blsL fs) = true := by
  induction fs with
  | nil => rfl
  | cons a r ih => exact ih
theorem plain_ok {fs : List Bool} {ss : List Int} (h1 : 1 ≤ fs.length) (hl : fs.length ≤ 1000000) (st : Sto) (hp : PuS st) : ∃ p, Per fs p ∧ mkF 1 F_Plainest_init 3 [] [.lst (blsL fs), .tup (intI ss)] st = .ok (plainD p (fs.take p) ss) st := by
  obtain ⟨p, e1, pp⟩ := least_ok h1 hl (st ++ [.ins 1 []]) (hp.append (show PuS [SO.ins 1 []] from rfl))
  have pl : p ≤ fs.length := Nat.le_of_dvd h1 pp.dv
  have p1 := pp.d1
  have gl : (fs.take p).length = p := by rw [List.length_take]; omega
  have s3 : PuS (st ++ [.ins 1 [.int p, .lst (blsL (fs.take p)), .tup (intI ss)]]) := hp.append (by
    show (pus [D.int p, .lst (blsL (fs.take p)), .tup (intI ss)] && true) = true
    rw [Bool.and_true]
    show (pu (D.int p) && (pus (blsL (fs.take p)) && (pus (intI ss) && true))) = true
    rw [bls_pus, intI_pus]
    rfl)
  have e2 := sums_ok (fs := fs.take p) (by omega) (by omega) _ s3
  rw [gl] at e2
  refine ⟨p, pp, ?_⟩
  have e3 : cutD (blsL fs) none (some (p : Int)) = blsL (fs.take p) := by
    have := cut_take (l := blsL fs) p
    rw [this]
    unfold blsL
    rw [List.map_take]
  have q0 : -4611686018427387904 ≤ (p : Int) ∧ (p : Int) < 4611686018427387904 := by omega
  have pb := bls_pus (fs.take p)
  have pi := intI_pus ss
  have ps := smL_pus (fs.take p) (p + 1)
  unfold plainD
  generalize blsL (fs.take p) = GS at *
  generalize blsL fs = FS at *
  generalize smL (fs.take p) (p + 1) = SM at *
  generalize intI ss = SS at *
  generalize (p : Int) = P at *
  simp -implicitDefEqProofs [mkF, mkG, F_Plainest_init, g_Plainest_init, e1, e2, e3, q0, pb, pi, ps]
theorem whole_int (i : Int) (st : Sto) : F_is_whole [.int i] st = .ok (.bl true) st := rfl
/-- what a set is made of -/
structure Row (m : Nat) (cs ch : List Int) : Prop where
  m1 : 1 ≤ m
  m2 : m ≤ 720
  cn : cs.Nodup
  cr : ∀ c ∈ cs, 0 ≤ c ∧ c < m
  cl : cs.length ≤ 1000
  hn : ch.Nodup
  hr : ∀ c ∈ ch, 1 ≤ c ∧ c < 2 ^ 220
  hl : ch.length ≤ 1000
def trs (n : Nat) : List D := (List.range n).map fun _ => D.bl true
theorem all_trs (n : Nat) (st : Sto) : bAll [.lst (trs n)] st = .ok (.bl true) st := by
  have b : blsOf (trs n) = some ((List.range n).map fun _ => true) := by
    unfold trs
    rw [← blsOf_map, List.map_map]
    rfl
  unfold bAll
  show (match (lstOf (.lst (trs n)) st).bind blsOf with
    | some bs => Res.ok (D.bl (bs.all id)) st
    | none => .bad) = _
  simp only [lstOf, Option.bind_some, b]
  simp
theorem lc_trs {g : EF} {l : List Int} {st : Sto} {sg : Sg} {i : Nat} (hi : i < sg.length) (hg : ∀ x ∈ l, g (sg.set i (some (.int x))) st = .ok (.bl true) st) : lcF (fun _ => True) (.one i) tYesD g sg (intI l) st = .ok (trs l.length) st := by
  have := lc_keep (ck := fun _ => True) (t := .one i) (c := tYesD) (f := g) (sg := sg) (st := st) (fun _ => some (D.bl true)) trivial (intI l) fun d hd => by
    unfold intI at hd
    obtain ⟨x, hx, rfl⟩ := List.mem_map.mp hd
    exact ⟨sg.set i (some (.int x)), by simp [setT, hi], .inr ⟨rfl, _, hg x hx, rfl⟩⟩
  rw [this]
  congr 1
  unfold trs intI
  induction l with
  | nil => rfl
  | cons a r ih =>
    have ih := ih (fun x hx => hg x (List.mem_cons_of_mem _ hx)) (by
      have := lc_keep (ck := fun _ => True) (t := .one i) (c := tYesD) (f := g) (sg := sg) (st := st) (fun _ => some (D.bl true)) trivial (intI r) fun d hd => by
        unfold intI at hd
        obtain ⟨x, hx, rfl⟩ := List.mem_map.mp hd
        exact ⟨sg.set i (some (.int x)), by simp [setT, hi], .inr ⟨rfl, _, hg x (List.mem_cons_of_mem _ hx), rfl⟩⟩
      exact this)
    rw [List.map_cons, List.filterMap_cons]
    simp only
    rw [ih, List.length_cons, List.range_succ_eq_map, List.map_cons, List.map_map]
    rfl
theorem checked_ok {m : Nat} {cs ch : List Int} (h : Row m cs ch) (st : Sto) (hp : PuS st) : ∃ p, Per (flagsOf m cs) p ∧ F_checked [.int m, .tup (intI cs), .tup (intI ch)] st = .ok (plainD p ((flagsOf m cs).take p) (L2.srtI ch)) st := by
  have fl : (flagsOf m cs).length = m := by simp [flagsOf]
  have m1 := h.m1
  have m2 := h.m2
  obtain ⟨p, pp, e⟩ := plain_ok (fs := flagsOf m cs) (ss := L2.srtI ch) (by omega) (by omega) st hp
  refine ⟨p, pp, ?_⟩
  have i1 : (1 : Int) ≤ (m : Int) := by omega
  have i2 : (m : Int) ≤ 720 := by omega
  have w := fun (i : Int) st => whole_int i st
  have lc0 : lcF (fun _ => True) (.one 3) tYesD b_checked_0 [some (.int m), some (.tup (intI cs)), some (.tup (intI ch)), none, none, none] (intI cs) st = .ok (trs cs.length) st := lc_trs (by simp) fun x hx => by
    obtain ⟨c1, c2⟩ := h.cr x hx
    rw [at_b_checked_0]
    simp -implicitDefEqProofs [w, fChn, c1, c2]
  have lc1 : lcF (fun _ => True) (.one 3) tYesD b_checked_1 [some (.int m), some (.tup (intI cs)), some (.tup (intI ch)), none, none, none] (intI ch) st = .ok (trs ch.length) st := lc_trs (by simp) fun x hx => by
    obtain ⟨c1, c2⟩ := h.hr x hx
    rw [at_b_checked_1]
    simp -implicitDefEqProofs [w, c1]
  have lc2 : lcF (fun _ => True) (.one 5) tYesD b_checked_2 [some (.int m), some (.tup (intI cs)), some (.tup (intI ch)), none, none, none] (rngD 0 m) st = .ok (blsL (flagsOf m cs)) st := by
    have := lc_keep (ck := fun _ => True) (t := .one 5) (c := tYesD) (f := b_checked_2) (sg := [some (.int m), some (.tup (intI cs)), some (.tup (intI ch)), none, none, none]) (st := st) (fun d => match d with
      | .int r => some (D.bl (decide (r ∈ cs)))
      | _ => none) trivial (rngD 0 m) fun d hd => by
      obtain ⟨i, hi, rfl⟩ := mem_rng hd
      refine ⟨_, rfl, .inr ⟨rfl, _, ?_, rfl⟩⟩
      rw [at_b_checked_2]
      show dInL false (.int (0 + (i : Int))) (.tup (intI cs)) st = _
      rw [in_tup]
      rfl
    rw [this]
    congr 1
    unfold rngD blsL flagsOf
    rw [List.filterMap_map, List.map_map]
    rw [show ((fun d => match d with
      | D.int r => some (D.bl (decide (r ∈ cs)))
      | _ => none) ∘ fun (i : Nat) => D.int (0 + (i : Int))) = (fun (i : Nat) => some (D.bl (decide ((i : Int) ∈ cs)))) from by funext i; simp]
    rw [List.filterMap_eq_map']
    rfl
  have a1 := all_trs cs.length st
  have a2 := all_trs ch.length st
  have k1 : kLenSet (.tup (intI cs)) st = .ok (.int cs.length) st := by
    unfold kLenSet
    simp only [itemsOf, Option.bind_some, ints_of]
    rw [if_pos (by have := h.cl; omega), L2.dedI_self h.cn]
  have k2 : kLenSet (.tup (intI ch)) st = .ok (.int ch.length) st := by
    unfold kLenSet
    simp only [itemsOf, Option.bind_some, ints_of]
    rw [if_pos (by have := h.hl; omega), L2.dedI_self h.hn]
  have l1 : (intI cs).length = cs.length := List.length_map _
  have l2 : (intI ch).length = ch.length := List.length_map _
  have so := intI_srt (l := ch) (by have := h.hl; omega)
  have se := srt_ints ch
  have sb : bSorted [.tup (intI ch)] st = .ok (.lst (intI (L2.srtI ch))) st := by
    unfold bSorted
    simp only [itemsOf]
    rw [if_pos so, se]
  clear so se
  have z1 : cs.length ≤ 16777216 := by have := h.cl; omega
  have z2 : ch.length ≤ 16777216 := by have := h.hl; omega
  have z3 : (rngD 0 m).length ≤ 16777216 := by rw [rng_len]; omega
  have t1 : (cs.length : Int) < 9223372036854775808 := by omega
  have t2 : (ch.length : Int) < 9223372036854775808 := by omega
  have b1 : -4611686018427387904 ≤ (m : Int) ∧ (m : Int) < 4611686018427387904 := by omega
  generalize flagsOf m cs = FS at *
  generalize trs cs.length = T1 at *
  generalize trs ch.length = T2 at *
  generalize plainD p (FS.take p) (L2.srtI ch) = PL at *
  generalize blsL FS = BF at *
  generalize intI (L2.srtI ch) = SS at *
  generalize intI ch = CH at *
  generalize intI cs = CS at *
  generalize hR : rngD 0 m = R at *
  simp -implicitDefEqProofs [F_checked, g_checked, w, fChn, i1, i2, lcR, lc0, lc1, lc2, a1, a2, k1, k2, l1, l2, sb, z1, z2, z3, t1, t2, b1, hR, e]
end Law
/-! sets of distances: the objects -/
namespace Law
open PySem Sh
def setD (p : Nat) (gs : List Bool) (ss : List Int) : D := .ins 2 [plainD p gs ss]
theorem plainD_pu (p : Nat) (gs : List Bool) (ss : List Int) : pu (plainD p gs ss) = true := by
  show (pu (D.int p) && (pus (blsL gs) && (pus (intI ss) && (pus (smL gs (p + 1)) && true)))) = true
  rw [bls_pus, intI_pus, smL_pus]
  rfl
theorem dist_new {m : Nat} {cs ch : List Int} (h : Row m cs ch) (st : Sto) (hp : PuS st) : ∃ p, Per (flagsOf m cs) p ∧ mkF 2 F_Distances_init 4 [] [.int m, .tup (intI cs), .tup (intI ch)] st = .ok (setD p ((flagsOf m cs).take p) (L2.srtI ch)) st := by
  obtain ⟨p, pp, e⟩ := checked_ok h (st ++ [.ins 2 []]) (hp.append (show PuS [SO.ins 2 []] from rfl))
  refine ⟨p, pp, ?_⟩
  have pl := plainD_pu p ((flagsOf m cs).take p) (L2.srtI ch)
  have ii : ∀ st, bIsi (tbl tOwn) [] (.int m) st = .ok (.bl false) st := fun st => rfl
  unfold setD
  generalize plainD p ((flagsOf m cs).take p) (L2.srtI ch) = PL at *
  generalize intI cs = CS at *
  generalize intI ch = CH at *
  generalize (m : Int) = M at *
  simp -implicitDefEqProofs [mkF, mkG, F_Distances_init, g_Distances_init, e, ii, pl]
def rowT (m : Nat) (cs ch : List Int) : D := .tup [.int m, .tup (intI cs), .tup (intI ch)]
end Law
/-! sets of distances: what is due -/
namespace Law
open PySem Sh
/-- whether k is due -/
def due (m : Nat) (cs ch : List Int) (k : Int) : Bool := decide (k % (m : Int) ∈ cs) != decide (k ∈ ch)
theorem ne_bl (a b : Bool) (st : Sto) : dNe (.bl a) (.bl b) st = .ok (.bl (a != b)) st := by cases a <;> cases b <;> rfl
theorem law_in_ok {m : Nat} {cs ch : List Int} (m1 : 1 ≤ m) (m2 : m ≤ 1000000) (k : Int) (st : Sto) : F_law_is_in [rowT m cs ch, .int k] st = .ok (.bl (due m cs ch k)) st := by
  have mp : (0 : Int) < (m : Int) := by omega
  have dp : divOk (m : Int) := Bd.divOk (n := 60) (Bd.of (by omega) (by omega)) (by decide)
  have i1 := in_tup cs (k % (m : Int)) false
  have i2 := in_tup ch k false
  simp only [Bool.false_eq_true, if_false] at i1 i2
  have nb := ne_bl (decide (k % (m : Int) ∈ cs)) (decide (k ∈ ch))
  unfold rowT due
  generalize decide (k % (m : Int) ∈ cs) = B1 at *
  generalize decide (k ∈ ch) = B2 at *
  generalize intI cs = CS at *
  generalize intI ch = CH at *
  generalize (m : Int) = M at *
  simp -implicitDefEqProofs [F_law_is_in, g_law_is_in, mp, dp, i1, i2, nb]
end Law
/-! sets of distances: what the law draws, I -/
namespace Law
open PySem Sh
/-- the divisors up to 720 -/
def divsN (N : Nat) : List Int := ((List.range 720).filter fun i => decide (N % (i + 1) = 0)).map fun (i : Nat) => ((i : Int) + 1)
theorem divs_in {N : Nat} {x : Int} (h : x ∈ divsN N) : 1 ≤ x ∧ x ≤ 720 := by
  unfold divsN at h
  obtain ⟨i, hi, rfl⟩ := List.mem_map.mp h
  have := List.mem_range.mp (List.mem_filter.mp hi).1
  omega
theorem divs_lc {way : Int} {N : Nat} (hw : way = 1 ∧ N = 5040 ∨ way = 2 ∧ N = 720) (x : Option D) (st : Sto) : lcF (fun _ => True) (.one 3) b_law_modulus_1 b_law_modulus_0 [x, some (.int way), none, none] (rngD 1 720) st = .ok (intI (divsN N)) st := by
  have := lc_keep (ck := fun _ => True) (t := .one 3) (c := b_law_modulus_1) (f := b_law_modulus_0) (sg := [x, some (.int way), none, none]) (st := st) (fun d => match d with
      | .int r => if (N : Int) % r = 0 then some (D.int r) else none
      | _ => none) trivial (rngD 1 720) fun d hd => by
    obtain ⟨i, hi, rfl⟩ := mem_rng hd
    refine ⟨_, rfl, ?_⟩
    have ip : (0 : Int) < 1 + (i : Int) := by omega
    have dp : divOk (1 + (i : Int)) := Bd.divOk (n := 60) (Bd.of (by omega) (by omega)) (by decide)
    have key : b_law_modulus_1 [x, some (.int way), none, some (.int (1 + (i : Int)))] st = .ok (decide ((N : Int) % (1 + (i : Int)) = 0)) st := by
      rw [at_b_law_modulus_1]
      generalize 1 + (i : Int) = K at *
      rcases hw with ⟨rfl, rfl⟩ | ⟨rfl, rfl⟩ <;> simp -implicitDefEqProofs [ip, dp]
    by_cases c : (N : Int) % (1 + (i : Int)) = 0
    · right
      refine ⟨?_, _, rfl, ?_⟩
      · have k2 := key
        rw [decide_eq_true c] at k2
        exact k2
      · simp only [c, if_true]
    · left
      refine ⟨?_, ?_⟩
      · have k2 := key
        rw [decide_eq_false c] at k2
        exact k2
      · simp only [c, if_false]
  rw [this]
  congr 1
  unfold rngD divsN intI
  rw [List.filterMap_map, List.map_map, ← List.filterMap_eq_map, List.filterMap_filter]
  congr 1
  funext i
  show (if (N : Int) % (1 + (i : Int)) = 0 then some (D.int (1 + (i : Int))) else none) = _
  have e1 : (1 + (i : Int)) = ((i + 1 : Nat) : Int) := by omega
  have e2 : ((N : Int) % ((i + 1 : Nat) : Int)) = ((N % (i + 1) : Nat) : Int) := (Int.natCast_emod N (i + 1)).symm
  rw [e1, e2]
  by_cases c : N % (i + 1) = 0
  · simp [c]
  · have : ¬ (((N % (i + 1) : Nat) : Int) = 0) := by omega
    simp only [this, c, if_false, decide_false]
    rfl
theorem divs_len {way : Int} {N : Nat} (hw : way = 1 ∧ N = 5040 ∨ way = 2 ∧ N = 720) : 16 ≤ (divsN N).length ∧ (divsN N).length ≤ 720 := by
  rcases hw with ⟨rfl, rfl⟩ | ⟨rfl, rfl⟩ <;> decide +kernel
theorem mod_draw {way : Int} {N : Nat} (hw : way = 0 ∨ way = 1 ∧ N = 5040 ∨ way = 2 ∧ N = 720) {n : Nat} {t : Int} {st : Sto} (hp : Pot st n t) (ht : t < 2 ^ 58) :
    ∃ (m : Nat) (st' : Sto), F_law_modulus [.loc n, .int way] st = .ok (.int m) st' ∧ 1 ≤ m ∧ m ≤ 720 ∧ (way ≠ 0 → (m : Int) ∈ divsN N) ∧ Drw n (t + 4) st st' := by
  rcases hw with rfl | hw
  · obtain ⟨a, s1, e1, a0, a1, d1⟩ := dip_dr (m := 12) hp (by omega) (by decide) (by decide)
    obtain ⟨b, s2, e2, b0, b1, d2⟩ := dip_dr (m := 40) d1.pot (by omega) (by decide) (by decide)
    obtain ⟨c, s3, e3, c0, c1, d3⟩ := dip_dr (m := 720) d2.pot (by omega) (by decide) (by decide)
    obtain ⟨w, s4, e4, w0, w1, d4⟩ := dip_dr (m := 3) d3.pot (by omega) (by decide) (by decide)
    have D := ((d1.trans d2).trans d3).trans d4
    have hw : w = 0 ∨ w = 1 ∨ w = 2 := by omega
    have fin : ∀ x : Int, 0 ≤ x → x < 720 → F_law_modulus [.loc n, .int 0] st = .ok (.int (1 + x)) s4 → ∃ (m : Nat) (st' : Sto), F_law_modulus [.loc n, .int 0] st = .ok (.int m) st' ∧ 1 ≤ m ∧ m ≤ 720 ∧ ((0 : Int) ≠ 0 → (m : Int) ∈ divsN N) ∧ Drw n (t + 4) st st' := fun x x0 x1 e => by
      obtain ⟨y, rfl⟩ := Int.eq_ofNat_of_zero_le x0
      refine ⟨y + 1, s4, ?_, by omega, by omega, fun z => absurd rfl z, D.le (by omega)⟩
      rw [e, show (1 : Int) + (y : Int) = ((y + 1 : Nat) : Int) by omega]
    rcases hw with rfl | rfl | rfl
    · exact fin a a0 (by omega) (by simp -implicitDefEqProofs [F_law_modulus, g_law_modulus, e1, e2, e3, e4])
    · exact fin b b0 (by omega) (by simp -implicitDefEqProofs [F_law_modulus, g_law_modulus, e1, e2, e3, e4])
    · exact fin c c0 (by omega) (by simp -implicitDefEqProofs [F_law_modulus, g_law_modulus, e1, e2, e3, e4])
  · obtain ⟨l1, l2⟩ := divs_len hw
    have lc := divs_lc hw (some (.loc n)) st
    have w0 : 0 < way ∧ way ≠ 0 := by omega
    obtain ⟨a, s1, e1, a0, a1, d1⟩ := dip_dr (m := 2) hp (by omega) (by decide) (by decide)
    have ln : (intI (divsN N)).length = (divsN N).length := List.length_map _
    have pick : ∃ u : Int, (u = 16 ∨ u = (divsN N).length) ∧ ∀ st, dIx (.lst [.int 16, .int (divsN N).length]) (.int a) st = .ok (.int u) st := by
      have ha : a = 0 ∨ a = 1 := by omega
      rcases ha with rfl | rfl
      · exact ⟨16, .inl rfl, fun st => by simp -implicitDefEqProofs⟩
      · exact ⟨_, .inr rfl, fun st => by simp -implicitDefEqProofs⟩
    obtain ⟨u, hu, pk⟩ := pick
    obtain ⟨r, s2, e2, r0, r1, d2⟩ := dip_dr (m := u) d1.pot (by omega) (by omega) (by omega)
    obtain ⟨d, hd, hg⟩ := get_in (l := intI (divsN N)) r0 (by rw [ln]; omega)
    unfold intI at hd
    obtain ⟨x, hx, rfl⟩ := List.mem_map.mp hd
    obtain ⟨x0, x1⟩ := divs_in hx
    obtain ⟨y, rfl⟩ := Int.eq_ofNat_of_zero_le (by omega : 0 ≤ x)
    refine ⟨y, s2, ?_, by omega, by omega, fun _ => hx, (d1.trans d2).le (by omega)⟩
    obtain ⟨gl, ge⟩ := List.getElem?_eq_some_iff.mp hg
    have rl : r < ((divsN N).length : Int) := by omega
    have tz : ((divsN N).length : Int) < 9223372036854775808 := by omega
    have rr : ∀ sg st, iRange2 (aCons (fC (.int 1)) (aCons (fC (.int 721)) aNil)) sg st = .ok ⟨rngD 1 720, fun _ => True⟩ st := fun sg st => by
      have rl : (rngD 1 720).length ≤ 16777216 := by rw [rng_len]; decide
      generalize hR : rngD 1 720 = R at *
      simp -implicitDefEqProofs [hR, rl]
    have r7 : (rngD 1 720).length ≤ 16777216 := by rw [rng_len]; decide
    have gi : ∀ st, dIx (.lst (intI (divsN N))) (.int r) st = .ok (.int y) st := fun st => by
      have rl' : r < ((intI (divsN N)).length : Int) := by rw [ln]; exact rl
      simp -implicitDefEqProofs [r0, rl', ge]
    clear ge gl hg hd hx l1 l2
    generalize intI (divsN N) = DV at *
    generalize rngD 1 720 = RN at *
    simp only [F_law_modulus, g_law_modulus]
    generalize iRange2 (aCons (fC (.int 1)) (aCons (fC (.int 721)) aNil)) = IT at rr ⊢
    simp -implicitDefEqProofs [-ev_dIx, w0.1, rr, lcR, r7, lc, ln, tz, e1, pk, e2, gi]
end Law
/-! sets of distances: what the law draws, II: classes -/
namespace Law
open PySem Sh
theorem lc_ints {g : TF} {f : EF} {l : List Int} {st : Sto} {sg : Sg} {i : Nat} (keep : Int → Bool) (hi : i < sg.length) (hg : ∀ x ∈ l, g (sg.set i (some (.int x))) st = .ok (keep x) st) (hf : ∀ x ∈ l, f (sg.set i (some (.int x))) st = .ok (.int x) st) : lcF (fun _ => True) (.one i) g f sg (intI l) st = .ok (intI (l.filter keep)) st := by
  have := lc_keep (ck := fun _ => True) (t := .one i) (c := g) (f := f) (sg := sg) (st := st) (fun d => match d with
    | .int x => if keep x = true then some (D.int x) else none
    | _ => none) trivial (intI l) fun d hd => by
    unfold intI at hd
    obtain ⟨x, hx, rfl⟩ := List.mem_map.mp hd
    refine ⟨sg.set i (some (.int x)), by simp [setT, hi], ?_⟩
    rcases hk : keep x with _ | _
    · left
      exact ⟨by rw [hg x hx, hk], by simp [hk]⟩
    · right
      exact ⟨by rw [hg x hx, hk], _, hf x hx, by simp [hk]⟩
  rw [this]
  congr 1
  unfold intI
  rw [List.filterMap_map, ← List.filterMap_eq_map, List.filterMap_filter]
  congr 1
def rngI (n : Nat) : List Int := (List.range n).map fun (i : Nat) => (i : Int)
theorem rngI_D (n : Nat) : rngD 0 n = intI (rngI n) := by
  unfold rngD intI rngI
  rw [List.map_map]
  congr 1
  funext i
  simp
theorem mem_rngI {n : Nat} {x : Int} : x ∈ rngI n ↔ 0 ≤ x ∧ x < n := by
  unfold rngI
  rw [List.mem_map]
  constructor
  · rintro ⟨i, hi, rfl⟩
    have := List.mem_range.mp hi
    omega
  · rintro ⟨h0, h1⟩
    exact ⟨x.toNat, List.mem_range.mpr (by omega), by omega⟩
theorem rngI_nodup (n : Nat) : (rngI n).Nodup := by
  unfold rngI
  rw [List.nodup_iff_pairwise_ne, List.pairwise_map]
  exact (List.nodup_iff_pairwise_ne.mp List.nodup_range).imp fun h e => h (by omega)
theorem rngI_len (n : Nat) : (rngI n).length = n := by simp [rngI]
/-- unlike remainders -/
structure RemS (m : Nat) (i : Nat) (l : List Int) : Prop where
  nd : l.Nodup
  rg : ∀ c ∈ l, 0 ≤ c ∧ c < m
  ln : l.length ≤ m + i
/-- one more lap of turned remainders -/
def turn1 (one : Int) (l : List Int) : List Int := l.filter (fun x => decide (x ≠ one)) ++ (if one ∈ l then [] else [one])
theorem turn1_ok {m i : Nat} {l : List Int} (h : RemS m i l) {one : Int} (h0 : 0 ≤ one) (h1 : one < m) : RemS m (i + 1) (turn1 one l) := by
  unfold turn1
  by_cases c : one ∈ l
  · rw [if_pos c, List.append_nil]
    exact ⟨h.nd.filter _, fun x hx => h.rg x (List.mem_filter.mp hx).1, by have := List.length_filter_le (fun x => decide (x ≠ one)) l; have := h.ln; omega⟩
  · rw [if_neg c]
    refine ⟨?_, fun x hx => ?_, ?_⟩
    · rw [List.nodup_append]
      refine ⟨h.nd.filter _, (by simp), fun x hx y hy e => ?_⟩
      have := List.mem_singleton.mp hy
      subst this; subst e
      exact c (List.mem_filter.mp hx).1
    · rcases List.mem_append.mp hx with hx | hx
      · exact h.rg x (List.mem_filter.mp hx).1
      · have := List.mem_singleton.mp hx
        subst this
        exact ⟨h0, h1⟩
    · rw [List.length_append, List.length_singleton]
      have := List.length_filter_le (fun x => decide (x ≠ one)) l
      have := h.ln
      omega
theorem ne_int (a b : Int) (st : Sto) : dNe (.int a) (.int b) st = .ok (.bl (decide (a ≠ b))) st := by
  by_cases h : a = b <;> simp -implicitDefEqProofs [h]
theorem cls_lap {m i n : Nat} {l : List Int} {a2 a3 a4 a6 a7 : Option D} {st : Sto} {t : Int} (h : RemS m i l) (hm : 1 ≤ m) (hm2 : m ≤ 720) (hi : i ≤ 10) (hp : Pot st n t) (ht : t < 2 ^ 58) :
    ∃ (l' : List Int) (st' : Sto) (a4' a7' : Option D), b_law_classes_6 [some (.loc n), some (.int m), a2, a3, a4, some (.lst (intI l)), a6, a7] st = .nx [some (.loc n), some (.int m), a2, a3, a4', some (.lst (intI l')), a6, a7'] st' ∧ RemS m (i + 1) l' ∧ Drw n (t + 1) st st' := by
  obtain ⟨one, s1, e1, o0, o1, d1⟩ := dip_dr (m := (m : Int)) hp (by omega) (by omega) (by omega)
  refine ⟨turn1 one l, s1, a4, some (.int one), ?_, turn1_ok h o0 o1, d1⟩
  have lc1 : lcF (fun _ => True) (.one 4) b_law_classes_4 b_law_classes_3 [some (.loc n), some (.int m), a2, a3, none, some (.lst (intI l)), a6, some (.int one)] (intI l) s1 = .ok (intI (l.filter fun x => decide (x ≠ one))) s1 := lc_ints _ (by simp) (fun x _ => by
    rw [at_b_law_classes_4]
    have := ne_int x one s1
    generalize decide (x ≠ one) = B at this ⊢
    simp -implicitDefEqProofs [this]) fun x _ => by
    rw [at_b_law_classes_3]
    rfl
  have hl := h.ln
  have li : (intI l).length = l.length := List.length_map _
  have z1 : (intI l).length ≤ 16777216 := by omega
  have il := in_lst l one true s1
  have lc2 : lcF (fun _ => True) (.one 4) tYesD b_law_classes_5 [some (.loc n), some (.int m), a2, a3, none, some (.lst (intI l)), a6, some (.int one)] (rngD 0 (if one ∈ l then 0 else 1)) s1 = .ok (intI (if one ∈ l then [] else [one])) s1 := by
    by_cases c : one ∈ l
    · rw [if_pos c, if_pos c]
      simp [rngD, lcF, intI]
    · rw [if_neg c, if_neg c]
      simp -implicitDefEqProofs [rngD, lcF, intI, at_b_law_classes_5]
  have ap : intI (turn1 one l) = intI (l.filter fun x => decide (x ≠ one)) ++ intI (if one ∈ l then [] else [one]) := by
    unfold turn1 intI
    rw [List.map_append]
  rw [ap]
  have z2 : (intI (l.filter fun x => decide (x ≠ one))).length + (intI (if one ∈ l then [] else [one])).length ≤ 16777216 := by
    have h1 : (intI (l.filter fun x => decide (x ≠ one))).length ≤ l.length := by
      unfold intI
      rw [List.length_map]
      exact List.length_filter_le _ _
    have h2 : (intI (if one ∈ l then [] else [one])).length ≤ 1 := by
      split <;> simp [intI]
    omega
  rw [at_b_law_classes_6]
  generalize intI (l.filter fun x => decide (x ≠ one)) = L1 at *
  generalize hL2 : intI (if one ∈ l then [] else [one]) = L2 at *
  generalize intI l = LL at *
  by_cases c : one ∈ l
  · simp only [c, if_true, decide_true, Bool.not_true] at il lc2
    generalize hR : rngD 0 0 = R at lc2
    have r0 : R.length ≤ 16777216 := by rw [← hR, rng_len]; decide
    simp -implicitDefEqProofs [e1, lcR, wipeD, lc1, z1, il, hR, r0, lc2, z2]
  · simp only [c, if_true, if_false, decide_false, Bool.not_false] at il lc2
    generalize hR : rngD 0 1 = R at lc2
    have r0 : R.length ≤ 16777216 := by rw [← hR, rng_len]; decide
    simp -implicitDefEqProofs [e1, lcR, wipeD, lc1, z1, il, hR, r0, lc2, z2]
end Law
/-! sets of distances: what the law draws, III: classes, whole -/
namespace Law
open PySem Sh
def isT : Option D → Bool
  | some (.bl b) => b
  | _ => false
theorem cls_marks {n : Nat} {t : Int} {st : Sto} {s : Nat} {a1 a4 a5 a6 a7 x2 : Option D} (hp : Pot st n t) (ht : t < 2 ^ 58) (hs : s ≤ 1000) :
    ∃ ys st', lcF (fun _ => True) (.one 4) tYesD b_law_classes_0 [some (.loc n), a1, x2, none, a4, a5, a6, a7] (rngD 0 s) st = .ok ys st' ∧ ys.length = s ∧ (∀ y ∈ ys, ∃ b, y = D.bl b) ∧ Drw n (t + s) st st' := by
  have hl : (rngD 0 s).length = s := rng_len 0 s
  obtain ⟨ys, st', e, l, p, d⟩ := lc_draw (ck := fun _ => True) (tg := .one 4) (f := b_law_classes_0) (sg := [some (.loc n), a1, x2, none, a4, a5, a6, a7]) (P := fun y => ∃ b, y = D.bl b) (fun _ => trivial) (2 ^ 58 + 1000) (show (0 : Int) ≤ 1 by decide) (rngD 0 s) st t hp (by rw [hl]; omega) fun d hd st t hp ht => by
    obtain ⟨r, s1, e1, r0, r1, d1⟩ := dip_dr (m := 3) hp (by omega) (by decide) (by decide)
    refine ⟨_, rfl, .bl (decide (r = 0)), s1, ?_, ⟨_, rfl⟩, d1⟩
    rw [at_b_law_classes_0]
    simp -implicitDefEqProofs [e1]
  rw [hl] at l d
  exact ⟨ys, st', e, l, p, by rw [Int.one_mul] at d; exact d⟩
theorem cls_first {n m s : Nat} {st : Sto} {ys : List D} {a5 a6 a7 : Option D} (hs : 1 ≤ s) (hs2 : s ≤ 1000) (hy : ys.length = s) (hb : ∀ y ∈ ys, ∃ b, y = D.bl b) :
    ∃ l, lcF (fun _ => True) (.one 4) b_law_classes_2 b_law_classes_1 [some (.loc n), some (.int m), some (.int s), some (.lst ys), none, a5, a6, a7] (rngD 0 m) st = .ok (intI l) st ∧ RemS m 0 l := by
  refine ⟨(rngI m).filter fun x => isT ys[(x % (s : Int)).toNat]?, ?_, (rngI_nodup m).filter _, fun c hc => mem_rngI.mp (List.mem_filter.mp hc).1, by have := List.length_filter_le (fun x => isT ys[(x % (s : Int)).toNat]?) (rngI m); rw [rngI_len] at this; omega⟩
  rw [rngI_D]
  refine lc_ints _ (by simp) (fun x hx => ?_) fun x hx => by rw [at_b_law_classes_1]; rfl
  have sp : (0 : Int) < (s : Int) := by omega
  have ds : divOk (s : Int) := Bd.divOk (n := 60) (Bd.of (by omega) (by omega)) (by decide)
  have r0 : 0 ≤ x % (s : Int) := Int.emod_nonneg _ (by omega)
  have r1 : x % (s : Int) < (s : Int) := Int.emod_lt_of_pos _ sp
  have lt : (x % (s : Int)).toNat < ys.length := by omega
  obtain ⟨b, hb⟩ := hb _ (List.getElem_mem lt)
  have gd : ys[(x % (s : Int)).toNat]? = some (.bl b) := by rw [List.getElem?_eq_getElem lt, hb]
  have rl : x % (s : Int) < (ys.length : Int) := by omega
  rw [at_b_law_classes_2, gd]
  generalize hR : x % (s : Int) = R at *
  generalize (s : Int) = S at *
  cases b <;> simp -implicitDefEqProofs [sp, ds, hR, r0, rl, hb, isT]
theorem cut_300 (l : List Int) : cutD (intI l) none (some 300) = intI (l.take 300) := by
  have := cut_take (l := intI l) 300
  unfold intI at this ⊢
  rw [List.map_take]
  exact this
theorem cls_draw {m n : Nat} {t : Int} {st : Sto} (hm : 1 ≤ m) (hm2 : m ≤ 720) (hp : Pot st n t) (ht : t < 2 ^ 57) :
    ∃ (cs : List Int) (st' : Sto), F_law_classes [.loc n, .int m] st = .ok (.tup (intI cs)) st' ∧ cs.Nodup ∧ (∀ c ∈ cs, 0 ≤ c ∧ c < m) ∧ cs.length ≤ 300 ∧ Drw n (t + 20) st st' := by
  have b12 : 1 ≤ (if (m : Int) < 12 then (m : Int) else 12) ∧ (if (m : Int) < 12 then (m : Int) else 12) ≤ 12 := by split <;> omega
  obtain ⟨a, s1, e1, a0, a1, d1⟩ := dip_dr (m := if (m : Int) < 12 then (m : Int) else 12) hp (by omega) b12.1 (by omega)
  have b2 := b12.2
  obtain ⟨a, rfl⟩ := Int.eq_ofNat_of_zero_le a0
  have ec : (1 : Int) + (a : Int) = ((a + 1 : Nat) : Int) := by omega
  obtain ⟨ys, s2, e2, l2, p2, d2⟩ := cls_marks (s := a + 1) (a1 := some (.int m)) (x2 := some (.int (a + 1 : Nat))) (a4 := none) (a5 := none) (a6 := none) (a7 := none) d1.pot (by omega) (by omega)
  obtain ⟨l, e3, c3⟩ := cls_first (n := n) (m := m) (s := a + 1) (st := s2) (a5 := none) (a6 := none) (a7 := none) (by omega) (by omega) l2 p2
  obtain ⟨k, s3, e4, k0, k1, d4⟩ := dip_dr (m := 4) d2.pot (by omega) (by decide) (by decide)
  obtain ⟨k, rfl⟩ := Int.eq_ofNat_of_zero_le k0
  have D3 := (d1.trans d2).trans d4
  obtain ⟨sg', s4, e5, l', x4, x6, x7, hsg, c5, d5⟩ := for_toN (ck := fun _ => True) (t := .one 6) (g := b_law_classes_6) (l := rngD 0 k) (sg := [some (.loc n), some (.int m), some (.int (a + 1 : Nat)), some (.lst ys), none, some (.lst (intI l)), none, none]) (st := s3)
    (fun i sg st => ∃ (l' : List Int) (x4 x6 x7 : Option D), sg = [some (.loc n), some (.int m), some (.int (a + 1 : Nat)), some (.lst ys), x4, some (.lst (intI l')), x6, x7] ∧ RemS m i l' ∧ Drw n (t + 1 + (a + 1 : Nat) + 1 + i) s3 st)
    ⟨l, none, none, none, rfl, c3, (Drw.refl d4.pot).le (by omega)⟩ (fun _ _ _ _ => trivial) fun i x sg st hx ⟨l', x4, x6, x7, hsg, c', d'⟩ => by
      subst hsg
      have hi : i < k := by
        have := (List.getElem?_eq_some_iff.mp hx).1
        rwa [rng_len] at this
      refine ⟨_, rfl, ?_⟩
      obtain ⟨l2, st2, y4, y7, e, c2, d2⟩ := cls_lap (a2 := some (.int (a + 1 : Nat))) (a3 := some (.lst ys)) (a4 := x4) (a6 := some x) (a7 := x7) c' hm hm2 (by omega) d'.pot (by omega)
      show Flw.to _ (b_law_classes_6 [some (.loc n), some (.int m), some (.int (a + 1 : Nat)), some (.lst ys), x4, some (.lst (intI l')), some x, x7] st)
      rw [e]
      exact ⟨l2, y4, some x, y7, rfl, c2, (d'.trans d2).le (by omega)⟩
  subst hsg
  rw [rng_len] at c5 d5
  obtain ⟨z, s5, e6, z0, z1, d6⟩ := dip_dr (m := 2) d5.pot (by omega) (by decide) (by decide)
  have DD := (D3.trans d5).trans d6
  have cu := cut_300 l'
  have rv : (intI (l'.take 300)).reverse = intI (l'.take 300).reverse := by unfold intI; rw [List.map_reverse]
  have nz : (l'.take 300).Nodup := c5.nd.sublist (List.take_sublist _ _)
  have rz : ∀ c ∈ l'.take 300, 0 ≤ c ∧ c < m := fun c hc => c5.rg c (List.mem_of_mem_take hc)
  have lz : (l'.take 300).length ≤ 300 := by rw [List.length_take]; omega
  generalize hL : l'.take 300 = L at *
  have i3 : (intI L).length ≤ 16777216 := by unfold intI; rw [List.length_map]; omega
  have rk : (rngD 0 k).length ≤ 16777216 := by rw [rng_len]; omega
  have ra : (rngD 0 (a + 1)).length ≤ 16777216 := by rw [rng_len]; omega
  have rm : (rngD 0 m).length ≤ 16777216 := by rw [rng_len]; omega
  have kt : ((k : Int)).toNat = k := by omega
  have at1 : (((a + 1 : Nat) : Int)).toNat = a + 1 := by omega
  have mt : ((m : Int)).toNat = m := by omega
  have bk : -4611686018427387904 ≤ (k : Int) ∧ (k : Int) < 4611686018427387904 := by omega
  have ba : -4611686018427387904 ≤ ((a + 1 : Nat) : Int) ∧ ((a + 1 : Nat) : Int) < 4611686018427387904 := by omega
  have bmm : -4611686018427387904 ≤ (m : Int) ∧ (m : Int) < 4611686018427387904 := by omega
  have core : F_law_classes [.loc n, .int m] st = .ok (.tup (if z = 0 then intI L.reverse else intI L)) s5 := by
    generalize ((a + 1 : Nat) : Int) = A1 at *
    generalize hA : rngD 0 (a + 1) = RA at *
    generalize hK : rngD 0 k = RK at *
    generalize hM : rngD 0 m = RM at *
    generalize (k : Int) = K at *
    generalize (m : Int) = M at *
    generalize (a : Int) = A at *
    generalize intI l' = IL at *
    generalize intI l = IL0 at *
    generalize intI L = II at *
    generalize intI L.reverse = IR at *
    by_cases cz : z = 0
    · simp only [cz, if_true]
      subst cz
      simp -implicitDefEqProofs [F_law_classes, g_law_classes, e1, ec, lcR, wipeD, at1, kt, mt, hA, hK, hM, ra, rk, rm, ba, bk, bmm, e2, e3, e4, e5, e6, cu, rv, i3]
    · simp only [cz, if_false]
      simp -implicitDefEqProofs [F_law_classes, g_law_classes, e1, ec, lcR, wipeD, at1, kt, mt, hA, hK, hM, ra, rk, rm, ba, bk, bmm, e2, e3, e4, e5, e6, cu, rv, i3, cz]
  by_cases cz : z = 0
  · rw [if_pos cz] at core
    exact ⟨L.reverse, s5, core, (List.reverse_perm L).nodup_iff.mpr nz, fun c hc => rz c (List.mem_reverse.mp hc), by rw [List.length_reverse]; exact lz, DD.le (by omega)⟩
  · rw [if_neg cz] at core
    exact ⟨L, s5, core, nz, rz, lz, DD.le (by omega)⟩
end Law
/-! sets of distances: what the law draws, IV: changed distances, rows -/
namespace Law
open PySem Sh
theorem py_ints (l : List Int) : py (.lst (intI l)) = true := by
  have : pys (intI l) = true := by
    induction l with
    | nil => rfl
    | cons a r ih => exact ih
  exact this
/-- unlike distances below a bound -/
structure Chg (B : Int) (i : Nat) (l : List Int) : Prop where
  nd : l.Nodup
  rg : ∀ c ∈ l, 1 ≤ c ∧ c < B
  ln : l.length ≤ i
theorem chg_tail {f n : Nat} {B : Int} {i : Nat} {ch : List Int} {one : Int} {a1 a2 a4 a5 : Option D} {S : Sto} {t : Int} (hf : S[f]? = some (.lst (intI ch))) (hn : n ≠ f) (hp : Pot S n t) (h : Chg B i ch) (hi : i ≤ 1000) (o1 : 1 ≤ one) (o2 : one < B) :
    ∃ (ch' : List Int) (S' : Sto), sIf (tOfE (fBin (dInL true) (fVar 6) (fVar 3))) (sDrop (fBM "list" mApp (fVar 3) (aCons (fVar 6) aNil))) sNil [some (.loc n), a1, a2, some (.loc f), a4, a5, some (.int one)] S = .nx [some (.loc n), a1, a2, some (.loc f), a4, a5, some (.int one)] S' ∧ Chg B (i + 1) ch' ∧ S'[f]? = some (.lst (intI ch')) ∧ Pot S' n t ∧ S'.length = S.length ∧ ∀ m, m ≠ f → S'[m]? = S[m]? := by
  have dl : dInL true (.int one) (.loc f) S = .ok (.bl (!decide (one ∈ ch))) S := by
    rw [dInL_of (l := intI ch) (by simp [itemsOf, hf]) rfl (intI_flat ch), intI_mem]
    rfl
  by_cases c : one ∈ ch
  · rw [decide_eq_true c, Bool.not_true] at dl
    refine ⟨ch, S, by simp -implicitDefEqProofs [dl], ⟨h.nd, h.rg, by have := h.ln; omega⟩, hf, hp, rfl, fun _ _ => rfl⟩
  · rw [decide_eq_false c, Bool.not_false] at dl
    have hl := h.ln
    have lf : f < S.length := (List.getElem?_eq_some_iff.mp hf).1
    have zl : (intI ch).length < 16777216 := by unfold intI; rw [List.length_map]; omega
    have ap : mApp (.loc f) [.int one] S = .ok .non (S.set f (.lst (intI (ch ++ [one])))) := by
      have : intI (ch ++ [one]) = intI ch ++ [.int one] := by unfold intI; rw [List.map_append]; rfl
      rw [this]
      unfold mApp
      simp only [hf, zl, if_true]
    refine ⟨ch ++ [one], S.set f (.lst (intI (ch ++ [one]))), by simp -implicitDefEqProofs [dl, hf, ap], ⟨?_, ?_, by rw [List.length_append, List.length_singleton]; omega⟩, by rw [List.getElem?_set_self lf], hp.cg (by rw [List.getElem?_set_ne (Ne.symm hn)]), by simp, fun m hm => by rw [List.getElem?_set_ne (Ne.symm hm)]⟩
    · rw [List.nodup_append]
      exact ⟨h.nd, by simp, fun x hx y hy e => by
        have := List.mem_singleton.mp hy
        subst this; subst e
        exact c hx⟩
    · intro x hx
      rcases List.mem_append.mp hx with hx | hx
      · exact h.rg x hx
      · have := List.mem_singleton.mp hx
        subst this
        exact ⟨o1, o2⟩
theorem max_one (x : Int) : (if x > 1 then x else 1) = max 1 x := by
  by_cases h : x > 1
  · rw [if_pos h]; omega
  · rw [if_neg h]; omega
theorem chg_lap {f n base : Nat} {B : Int} {i : Nat} {ch : List Int} {a2 a4 a5 a6 : Option D} {S : Sto} {t : Int} (hf : S[f]? = some (.lst (intI ch))) (hn : n ≠ f) (hp : Pot S n t) (ht : t < 2 ^ 57) (h : Chg B i ch) (hi : i ≤ 1000) (hb : 1 ≤ base) (hb2 : base ≤ 720) (hB : 10 ^ 59 < B) (hB2 : B ≤ 10 ^ 60) :
    ∃ (ch' : List Int) (S' : Sto) (a5' a6' : Option D), b_law_changed_0 [some (.loc n), some (.int base), a2, some (.loc f), a4, a5, a6] S = .nx [some (.loc n), some (.int base), a2, some (.loc f), a4, a5', a6'] S' ∧ Chg (B + 720) (i + 1) ch' ∧ S'[f]? = some (.lst (intI ch')) ∧ Pot S' n (t + 5) ∧ S'.length = S.length ∧ ∀ m, m ≠ f → m ≠ n → S'[m]? = S[m]? := by
  obtain ⟨w, s1, e1, w0, w1, d1⟩ := dip_dr (m := 5) hp (by omega) (by decide) (by decide)
  obtain ⟨a, s2, e2, a0, a1, d2⟩ := dip_dr (m := 9) d1.pot (by omega) (by decide) (by decide)
  obtain ⟨b, s3, e3, b0, b1, d3⟩ := dip_dr (m := 60) d2.pot (by omega) (by decide) (by decide)
  obtain ⟨c, s4, e4, c0, c1, d4⟩ := dip_dr (m := 9) d3.pot (by omega) (by decide) (by decide)
  have D4 := ((d1.trans d2).trans d3).trans d4
  have hB' : Chg (B + 720) i ch := ⟨h.nd, fun c hc => by have := h.rg c hc; omega, h.ln⟩
  have mo : mulOk (base : Int) c := (Bd.of (n := 20) (by omega) (by omega)).mulOk (Bd.of (n := 20) (by omega) (by omega))
  have mc : (base : Int) * c ≤ 720 * 9 := Int.mul_le_mul (by omega) (by omega) c0 (by omega)
  have mc0 : 0 ≤ (base : Int) * c := Int.mul_nonneg (by omega) c0
  -- what stands at the end, from the store at which the last part begins
  have fin : ∀ (S1 : Sto) (one : Int) (x5 : Option D), Drw n (t + 5) S S1 → 1 ≤ one → one < B + 720 →
      b_law_changed_0 [some (.loc n), some (.int base), a2, some (.loc f), a4, a5, a6] S = sIf (tOfE (fBin (dInL true) (fVar 6) (fVar 3))) (sDrop (fBM "list" mApp (fVar 3) (aCons (fVar 6) aNil))) sNil [some (.loc n), some (.int base), a2, some (.loc f), a4, x5, some (.int one)] S1 →
      ∃ (ch' : List Int) (S' : Sto) (a5' a6' : Option D), b_law_changed_0 [some (.loc n), some (.int base), a2, some (.loc f), a4, a5, a6] S = .nx [some (.loc n), some (.int base), a2, some (.loc f), a4, a5', a6'] S' ∧ Chg (B + 720) (i + 1) ch' ∧ S'[f]? = some (.lst (intI ch')) ∧ Pot S' n (t + 5) ∧ S'.length = S.length ∧ ∀ m, m ≠ f → m ≠ n → S'[m]? = S[m]? := fun S1 one x5 d o1 o2 e => by
    obtain ⟨ch', S', e', g1, g2, g3, g4, g5⟩ := chg_tail (a1 := some (.int base)) (a2 := a2) (a4 := a4) (a5 := x5) (f := f) (by rw [d.oth f (Ne.symm hn)]; exact hf) hn d.pot hB' hi o1 o2
    exact ⟨ch', S', _, _, e.trans e', g1, g2, g3, g4.trans d.len, fun m m1 m2 => (g5 m m1).trans (d.oth m m2)⟩
  generalize hG : sIf (tOfE (fBin (dInL true) (fVar 6) (fVar 3))) (sDrop (fBM "list" mApp (fVar 3) (aCons (fVar 6) aNil))) sNil = G at fin
  have hw : w = 0 ∨ w = 1 ∨ w = 2 ∨ w = 3 ∨ w = 4 := by omega
  have hf4 : s4[f]? = some (.lst (intI ch)) := by rw [D4.oth f (Ne.symm hn)]; exact hf
  have p59 : powOk 10 59 := by decide
  rcases hw with rfl | rfl | rfl | rfl | rfl
  · exact fin s4 (1 + a) _ (D4.le (by omega)) (by omega) (by omega) (by rw [at_b_law_changed_0, hG]; simp -implicitDefEqProofs [e1, e2, e3, e4, mo]; rfl)
  · exact fin s4 (1 + b) _ (D4.le (by omega)) (by omega) (by omega) (by rw [at_b_law_changed_0, hG]; simp -implicitDefEqProofs [e1, e2, e3, e4, mo]; rfl)
  · exact fin s4 (1 + base * c) _ (D4.le (by omega)) (by omega) (by omega) (by rw [at_b_law_changed_0, hG]; simp -implicitDefEqProofs [e1, e2, e3, e4, mo]; rfl)
  · obtain ⟨x, s5, e5, x0, x1, d5⟩ := dip_dr (m := 10 ^ 59) D4.pot (by omega) (by decide) (by decide)
    have e5' : F_law_draw [.loc n, .int 100000000000000000000000000000000000000000000000000000000000] s4 = .ok (.int x) s5 := e5
    exact fin s5 (1 + x) _ ((D4.trans d5).le (by omega)) (by omega) (by omega) (by rw [at_b_law_changed_0, hG]; simp -implicitDefEqProofs [e1, e2, e3, e4, mo, p59, e5']; rfl)
  · have nl : dNe (.loc f) (.lst []) s4 = .ok (.bl (decide (ch ≠ []))) s4 := by
      have rs : resD s4 (.loc f) = .lst (intI ch) := by simp [resD, hf4]
      have ok : eqOk (.lst (intI ch)) (.lst []) = true := eqOk_of (py_ints ch) rfl (by simp [dep])
      rw [dNe_ok ok rs rfl]
      cases ch with
      | nil => rfl
      | cons a r => rfl
    rcases List.eq_nil_or_concat ch with hc | ⟨r, x, hc⟩
    · rw [hc] at nl
      have nl : dNe (.loc f) (.lst []) s4 = .ok (.bl false) s4 := nl
      exact fin s4 (1 + b) _ (D4.le (by omega)) (by omega) (by omega) (by rw [at_b_law_changed_0, hG]; simp -implicitDefEqProofs [e1, e2, e3, e4, mo, nl]; rfl)
    · rw [decide_eq_true (by rw [hc]; simp)] at nl
      obtain ⟨y, s5, e5, y0, y1, d5⟩ := dip_dr (m := 4) D4.pot (by omega) (by decide) (by decide)
      have xr := h.rg x (by rw [hc]; simp)
      have il : dIx (.loc f) (.int (-1)) s4 = .ok (.int x) s4 := ix_last (A := intI r) (by rw [hf4, hc]; simp [intI])
      have d1 : dIx (.lst [.int (1 + a), .int (1 + b), .int (1 + base * c)]) (.int 1) s4 = .ok (.int (1 + b)) s4 := by simp -implicitDefEqProofs
      have hy : y = 0 ∨ y = 1 ∨ y = 2 ∨ y = 3 := by omega
      have D5 := (D4.trans d5).le (show t + 1 + 1 + 1 + 1 + 1 ≤ t + 5 by omega)
      rcases hy with rfl | rfl | rfl | rfl
      · have d2 : dIx (.lst [.int base, .int (-1), .int 1, .int (-base)]) (.int 0) s5 = .ok (.int (base)) s5 := by simp -implicitDefEqProofs
        exact fin s5 (max 1 (x + base)) _ D5 (by omega) (by omega) (by rw [at_b_law_changed_0, hG, ← max_one]; simp -implicitDefEqProofs [-ev_dIx, e1, e2, e3, e4, mo, nl, il, e5, d1, d2]; rfl)
      · have d2 : dIx (.lst [.int base, .int (-1), .int 1, .int (-base)]) (.int 1) s5 = .ok (.int (-1)) s5 := by simp -implicitDefEqProofs
        exact fin s5 (max 1 (x + -1)) _ D5 (by omega) (by omega) (by rw [at_b_law_changed_0, hG, ← max_one]; simp -implicitDefEqProofs [-ev_dIx, e1, e2, e3, e4, mo, nl, il, e5, d1, d2]; rfl)
      · have d2 : dIx (.lst [.int base, .int (-1), .int 1, .int (-base)]) (.int 2) s5 = .ok (.int (1)) s5 := by simp -implicitDefEqProofs
        exact fin s5 (max 1 (x + 1)) _ D5 (by omega) (by omega) (by rw [at_b_law_changed_0, hG, ← max_one]; simp -implicitDefEqProofs [-ev_dIx, e1, e2, e3, e4, mo, nl, il, e5, d1, d2]; rfl)
      · have d2 : dIx (.lst [.int base, .int (-1), .int 1, .int (-base)]) (.int 3) s5 = .ok (.int (-base)) s5 := by simp -implicitDefEqProofs
        exact fin s5 (max 1 (x + -base)) _ D5 (by omega) (by omega) (by rw [at_b_law_changed_0, hG, ← max_one]; simp -implicitDefEqProofs [-ev_dIx, e1, e2, e3, e4, mo, nl, il, e5, d1, d2]; rfl)
end Law
/-! sets of distances: what the law draws, V: changed distances, rows, whole -/
namespace Law
open PySem Sh
theorem chg_draw {n base most : Nat} {t : Int} {st : Sto} (hp : Pot st n t) (ht : t < 2 ^ 56) (hb : 1 ≤ base) (hb2 : base ≤ 720) (hm : most ≤ 300) (hpu : PuS st) :
    ∃ (ch : List Int) (st' : Sto), F_law_changed [.loc n, .int base, .int most] st = .ok (.tup (intI ch)) st' ∧ Chg (2 ^ 200) most ch ∧ Drw n (t + 1600) st st' := by
  have nl : n < st.length := hp.lt
  have hp1 : Pot (st ++ [.lst []]) n t := hp.append _
  have em : (most : Int) + 1 = ((most + 1 : Nat) : Int) := by omega
  obtain ⟨k, s1, e1, k0, k1, d1⟩ := dip_dr (m := (most : Int) + 1) hp1 (by omega) (by omega) (by omega)
  obtain ⟨k, rfl⟩ := Int.eq_ofNat_of_zero_le k0
  have f1 : s1[st.length]? = some (.lst (intI [])) := by
    rw [d1.oth _ (by omega), List.getElem?_append_right (Nat.le_refl _), Nat.sub_self]
    rfl
  obtain ⟨sg', S, e2, ch, y4, y5, y6, hsg, c2, f2, p2, l2, o2⟩ := for_toN (ck := fun _ => True) (t := .one 4) (g := b_law_changed_0) (l := rngD 0 k) (sg := [some (.loc n), some (.int base), some (.int most), some (.loc st.length), none, none, none]) (st := s1)
    (fun i sg S => ∃ (ch : List Int) (y4 y5 y6 : Option D), sg = [some (.loc n), some (.int base), some (.int most), some (.loc st.length), y4, y5, y6] ∧ Chg (10 ^ 59 + 1 + 720 * (i : Int)) i ch ∧ S[st.length]? = some (.lst (intI ch)) ∧ Pot S n (t + 1 + 5 * (i : Int)) ∧ S.length = st.length + 1 ∧ ∀ m, m ≠ st.length → m ≠ n → S[m]? = s1[m]?)
    ⟨[], none, none, none, rfl, ⟨List.nodup_nil, by simp, by simp⟩, f1, d1.pot.le (by omega), by rw [d1.len]; simp, fun _ _ _ => rfl⟩ (fun _ _ _ _ => trivial) fun i x sg S hx ⟨ch, y4, y5, y6, hsg, c, f, p, l, o⟩ => by
      subst hsg
      have hi : i < k := by
        have := (List.getElem?_eq_some_iff.mp hx).1
        rwa [rng_len] at this
      refine ⟨_, rfl, ?_⟩
      obtain ⟨ch', S', a5, a6, e, g1, g2, g3, g4, g5⟩ := chg_lap (a2 := some (.int most)) (a4 := some x) (a5 := y5) (a6 := y6) f (by omega) p (by omega) c (by omega) hb hb2 (by omega) (by omega)
      show Flw.to _ (b_law_changed_0 [some (.loc n), some (.int base), some (.int most), some (.loc st.length), some x, y5, y6] S)
      rw [e]
      refine ⟨ch', some x, a5, a6, rfl, ?_, g2, g3.le (by omega), g4.trans l, fun m m1 m2 => (g5 m m1 m2).trans (o m m1 m2)⟩
      rw [show (10 ^ 59 + 1 + 720 * ((i + 1 : Nat) : Int)) = 10 ^ 59 + 1 + 720 * (i : Int) + 720 by omega]
      exact g1
  subst hsg
  rw [rng_len] at c2 p2
  have hk : k ≤ most := by omega
  have C : Chg (2 ^ 200) most ch := ⟨c2.nd, fun c hc => by have := c2.rg c hc; omega, by have := c2.ln; omega⟩
  have core : fnF 7 g_law_changed [.loc n, .int base, .int most] st = .ok (.tup (intI ch)) S := by
    have rk : (rngD 0 k).length ≤ 16777216 := by rw [rng_len]; omega
    have kt : ((k : Int)).toNat = k := by omega
    have bk : -4611686018427387904 ≤ (k : Int) ∧ (k : Int) < 4611686018427387904 := by omega
    have zl : (intI ch).length ≤ 16777216 := by unfold intI; rw [List.length_map]; have := C.ln; omega
    generalize hK : rngD 0 k = RK at *
    generalize intI ch = CH at *
    generalize (k : Int) = K at *
    generalize (most : Int) = MO at *
    generalize (base : Int) = BA at *
    simp -implicitDefEqProofs [g_law_changed, e1, kt, hK, rk, bk, e2, f2, zl]
  have ll : st.length ≤ S.length := by omega
  have d : Drw n (t + 1600) st (S.take st.length) := by
    refine ⟨(p2.cg (List.getElem?_take_of_lt nl)).le (by omega), by rw [List.length_take]; omega, fun m hm => ?_⟩
    by_cases z : m < st.length
    · rw [List.getElem?_take_of_lt z, o2 m (by omega) hm, d1.oth m hm, List.getElem?_append_left z]
    · rw [List.getElem?_eq_none (by rw [List.length_take]; omega), List.getElem?_eq_none (by omega)]
  exact ⟨ch, _, cut_ok core (intI_pus ch) (d.pus hpu), C, d⟩
theorem row_draw {n most : Nat} {way : Int} {N : Nat} {t : Int} {st : Sto} (hw : way = 0 ∨ way = 1 ∧ N = 5040 ∨ way = 2 ∧ N = 720) (hp : Pot st n t) (ht : t < 2 ^ 55) (hm : most ≤ 300) (hpu : PuS st) :
    ∃ (m : Nat) (cs ch : List Int) (st' : Sto), F_law_row [.loc n, .int way, .int most] st = .ok (rowT m cs ch) st' ∧ Row m cs ch ∧ ch.length ≤ most ∧ (way ≠ 0 → (m : Int) ∈ divsN N) ∧ Drw n (t + 1700) st st' := by
  obtain ⟨m, s1, e1, m1, m2, md, d1⟩ := mod_draw hw hp (by omega)
  obtain ⟨cs, s2, e2, cn, cr, cl, d2⟩ := cls_draw m1 m2 d1.pot (by omega)
  obtain ⟨ch, s3, e3, c3, d3⟩ := chg_draw (base := m) (most := most) d2.pot (by omega) m1 m2 hm ((d1.trans d2).pus hpu)
  refine ⟨m, cs, ch, s3, ?_, ⟨m1, m2, cn, cr, by omega, c3.nd, fun c hc => by have := c3.rg c hc; omega, by have := c3.ln; omega⟩, c3.ln, md, ((d1.trans d2).trans d3).le (by omega)⟩
  unfold rowT
  generalize intI ch = CH at *
  generalize intI cs = CS at *
  generalize (most : Int) = MO at *
  generalize (m : Int) = M at *
  simp -implicitDefEqProofs [F_law_row, g_law_row, e1, e2, e3]
end Law
/-! a value is the same as itself -/
namespace Law
open PySem Sh
theorem lc_map {ck : Sto → Prop} {t : Tg} {c : TF} {f : EF} {sg : Sg} {st : Sto} (h : D → D) (hc : ck st) (l : List D)
    (hf : ∀ d ∈ l, ∃ sg1, setT t d sg = some sg1 ∧ c sg1 st = .ok true st ∧ f sg1 st = .ok (h d) st) : lcF ck t c f sg l st = .ok (l.map h) st := by
  have := lc_keep (ck := ck) (t := t) (c := c) (f := f) (sg := sg) (st := st) (fun d => some (h d)) hc l fun d hd => by
    obtain ⟨sg1, e1, e2, e3⟩ := hf d hd
    exact ⟨sg1, e1, .inr ⟨e2, h d, e3, rfl⟩⟩
  rw [this]
  congr 1
  induction l with
  | nil => rfl
  | cons a l ih => simp
inductive Pln : Nat → D → Prop
  | int {k : Nat} (i : Int) : Pln k (.int i)
  | bl {k : Nat} (b : Bool) : Pln k (.bl b)
  | non {k : Nat} : Pln k .non
  | str {k : Nat} (x : Str) : Pln k (.str x)
  | lst {k : Nat} {l : List D} (h : ∀ x ∈ l, Pln k x) (hl : l.length ≤ 16777216) : Pln (k + 1) (.lst l)
  | tup {k : Nat} {l : List D} (h : ∀ x ∈ l, Pln k x) (hl : l.length ≤ 16777216) : Pln (k + 1) (.tup l)
theorem Pln.up {k : Nat} {x : D} (h : Pln k x) : Pln (k + 1) x := by
  induction h with
  | int i => exact .int i
  | bl b => exact .bl b
  | non => exact .non
  | str x => exact .str x
  | lst h hl ih => exact .lst ih hl
  | tup h hl ih => exact .tup ih hl
theorem Pln.le {k j : Nat} {x : D} (h : Pln k x) (e : k ≤ j) : Pln j x := by
  obtain ⟨i, rfl⟩ := Nat.le.dest e
  clear e
  induction i with
  | zero => exact h
  | succ i ih => exact ih.up
theorem same_items {Fr : FF} {a : D} {l : List D} {st : Sto} (hx : ∀ (i : Nat) (x : D), l[i]? = some x → dIx a (.int i) st = .ok x st) (hF : ∀ x ∈ l, Fr [x, x] st = .ok (.bl true) st) {x2 x3 : Option D} :
    lcF (fun _ => True) (.one 3) tYesD (b_law_same_0 Fr) [some a, some a, x2, x3] (rngD 0 l.length) st = .ok ((rngD 0 l.length).map fun _ => .bl true) st :=
  lc_map (fun _ => .bl true) trivial _ fun d hd => by
    obtain ⟨i, hi, rfl⟩ := mem_rng hd
    rw [Int.zero_add]
    refine ⟨_, rfl, rfl, ?_⟩
    have h1 := hx i l[i] (List.getElem?_eq_getElem hi)
    have h2 := hF l[i] (List.getElem_mem _)
    rw [at_b_law_same_0]
    generalize l[i] = y at h1 h2
    simp -implicitDefEqProofs [-ev_dIx, h1, h2]
theorem same_pl : ∀ (k : Nat) (x : D) (st : Sto), Pln k x → recF 4 g_law_same (k + 1) [x, x] st = .ok (.bl true) st := by
  intro k
  induction k with
  | zero =>
    intro x st h
    cases h with
    | int i => simp -implicitDefEqProofs [recF, g_law_same]
    | bl b => cases b <;> simp -implicitDefEqProofs [recF, g_law_same]
    | non => simp -implicitDefEqProofs [recF, g_law_same]
    | str x => simp -implicitDefEqProofs [recF, g_law_same]
  | succ k ih =>
    intro x st h
    have al : ∀ n : Nat, bAll [.lst ((rngD 0 n).map fun _ => D.bl true)] st = .ok (.bl true) st := fun n => by
      have e : blsOf ((rngD 0 n).map fun _ => D.bl true) = some ((rngD 0 n).map fun _ => true) := by
        induction (rngD 0 n) with
        | nil => rfl
        | cons a r ih => simp only [List.map_cons]; unfold blsOf; rw [ih]; rfl
      unfold bAll
      dsimp only
      rw [show lstOf (.lst ((rngD 0 n).map fun _ => D.bl true)) st = some ((rngD 0 n).map fun _ => D.bl true) from rfl, Option.bind_some, e]
      simp
    cases h with
    | int i => simp -implicitDefEqProofs [recF, g_law_same]
    | bl b => cases b <;> simp -implicitDefEqProofs [recF, g_law_same]
    | non => simp -implicitDefEqProofs [recF, g_law_same]
    | str x => simp -implicitDefEqProofs [recF, g_law_same]
    | @lst _ l h hl =>
      have lc := same_items (Fr := recF 4 g_law_same (k + 1)) (a := .lst l) (l := l) (st := st) (x2 := some (.bl true)) (x3 := none) (fun i y hi => by simp [hi]) fun x hx => ih x st (h x hx)
      have al := al l.length
      have zl : (rngD 0 l.length).length ≤ 16777216 := by rw [rng_len]; exact hl
      show fnF 4 (g_law_same (recF 4 g_law_same (k + 1))) [.lst l, .lst l] st = _
      generalize recF 4 g_law_same (k + 1) = Fr at lc ⊢
      generalize ((rngD 0 l.length).map fun _ => D.bl true) = U at lc al
      generalize hR : rngD 0 l.length = R at lc zl
      have hR' : rngD 0 (l.length : Int).toNat = R := by rw [← hR]; simp
      have hq : (l.length : Int) < 4611686018427387904 := by omega
      simp -implicitDefEqProofs [g_law_same, lcR, hR, hR', zl, hl, hq, lc, al]
    | @tup _ l h hl =>
      have lc := same_items (Fr := recF 4 g_law_same (k + 1)) (a := .tup l) (l := l) (st := st) (x2 := some (.bl true)) (x3 := none) (fun i y hi => by simp [hi]) fun x hx => ih x st (h x hx)
      have al := al l.length
      have zl : (rngD 0 l.length).length ≤ 16777216 := by rw [rng_len]; exact hl
      show fnF 4 (g_law_same (recF 4 g_law_same (k + 1))) [.tup l, .tup l] st = _
      generalize recF 4 g_law_same (k + 1) = Fr at lc ⊢
      generalize ((rngD 0 l.length).map fun _ => D.bl true) = U at lc al
      generalize hR : rngD 0 l.length = R at lc zl
      have hR' : rngD 0 (l.length : Int).toNat = R := by rw [← hR]; simp
      have hq : (l.length : Int) < 4611686018427387904 := by omega
      simp -implicitDefEqProofs [g_law_same, lcR, hR, hR', zl, hl, hq, lc, al]
theorem same_ok {x : D} {k : Nat} (h : Pln k x) (hk : k ≤ 7) (st : Sto) : F_law_same [x, x] st = .ok (.bl true) st := same_pl 7 x st (h.le hk)
end Law
/-! sets of distances: the plainest form -/
namespace Law
open PySem Sh
def fOf (m : Nat) (cs : List Int) : Nat → Bool := fun i => decide (((i % m : Nat) : Int) ∈ cs)
theorem flags_fun (m : Nat) (cs : List Int) : flagsOf m cs = (List.range m).map (fOf m cs) := by
  unfold flagsOf
  refine List.map_congr_left fun r hr => ?_
  have := List.mem_range.mp hr
  unfold fOf
  rw [Nat.mod_eq_of_lt this]
theorem fOf_per (m : Nat) (cs : List Int) : IsP (fOf m cs) m := fun i => by
  unfold fOf
  rw [Nat.add_mod_right]
theorem lst_of {f : Nat → Bool} {m p : Nat} (m1 : 1 ≤ m) (hf : IsP f m) (h : Per ((List.range m).map f) p) : Lst f p ∧ p ∣ m := by
  have ln : ((List.range m).map f).length = m := by simp
  have dv : p ∣ m := by have := h.dv; rwa [ln] at this
  refine ⟨⟨h.d1, (go_fun m1 hf dv).mp h.go, fun q hq hd z => h.mn q hq hd ((go_fun m1 hf ?_).mpr z)⟩, dv⟩
  obtain ⟨r, rfl⟩ := hd
  rw [Nat.mul_div_cancel_left _ (by have := hq.1; omega)]
  exact Nat.dvd_trans ⟨q, Nat.mul_comm _ _⟩ dv
theorem take_fun {f : Nat → Bool} {m p : Nat} (h : p ≤ m) : ((List.range m).map f).take p = (List.range p).map f := by
  rw [← List.map_take]
  congr 1
  refine List.ext_getElem? fun i => ?_
  by_cases c : i < p
  · rw [List.getElem?_take_of_lt c, List.getElem?_range (by omega), List.getElem?_range c]
  · rw [List.getElem?_eq_none (by rw [List.length_take, List.length_range]; omega), List.getElem?_eq_none (by rw [List.length_range]; omega)]
/-- a set as it lies, by its function, its period and its changed distances -/
def setC (f : Nat → Bool) (p : Nat) (ss : List Int) : D := setD p ((List.range p).map f) ss
theorem set_can {m : Nat} {cs ch : List Int} (h : Row m cs ch) (st : Sto) (hp : PuS st) : ∃ p, Lst (fOf m cs) p ∧ p ∣ m ∧ mkF 2 F_Distances_init 4 [] [.int m, .tup (intI cs), .tup (intI ch)] st = .ok (setC (fOf m cs) p (L2.srtI ch)) st := by
  obtain ⟨p, pp, e⟩ := dist_new h st hp
  rw [flags_fun] at pp e
  obtain ⟨l, dv⟩ := lst_of h.m1 (fOf_per m cs) pp
  refine ⟨p, l, dv, ?_⟩
  rw [e, take_fun (Nat.le_of_dvd h.m1 dv)]
  rfl
end Law
/-! sets of distances: what the law asks for -/
namespace Law
open PySem Sh
/-- distances in a live list -/
structure Ask (S : Sto) (f : Nat) (l : List Int) (k : Nat) : Prop where
  at_ : S[f]? = some (.lst (intI l))
  ge : ∀ a ∈ l, 1 ≤ a ∧ a < 2 ^ 300
  ln : l.length ≤ k
theorem prb_in {S : Sto} {f n m k : Nat} {l cs ch : List Int} {R : D} {one : Int} (h : Ask S f l k) (hk : k ≤ 1000000) (o1 : 1 ≤ one) (o2 : one < 2 ^ 220) (m1 : 1 ≤ m) (m2 : m ≤ 720) :
    ∃ S', b_law_probes_0 [some (.loc n), some R, some (.loc f), some (rowT m cs ch), some (.int one)] S = .nx [some (.loc n), some R, some (.loc f), some (rowT m cs ch), some (.int one)] S' ∧ (∃ l', Ask S' f l' (k + 5)) ∧ S'.length = S.length ∧ ∀ j, j ≠ f → S'[j]? = S[j]? := by
  have lf : f < S.length := (List.getElem?_eq_some_iff.mp h.at_).1
  have hl := h.ln
  refine ⟨S.set f (.lst (intI (l ++ [one, one + 1, max 1 (one - 1), one + m, max 1 (one - m)]))), ?_, ⟨l ++ [one, one + 1, max 1 (one - 1), one + m, max 1 (one - m)], by rw [List.getElem?_set_self lf], ?_, ?_⟩, by simp, fun j hj => by rw [List.getElem?_set_ne (Ne.symm hj)]⟩
  · have zl : (intI l).length + 5 ≤ 16777216 := by unfold intI; rw [List.length_map]; omega
    have e : intI (l ++ [one, one + 1, max 1 (one - 1), one + m, max 1 (one - m)]) = intI l ++ [.int one, .int (one + 1), .int (max 1 (one - 1)), .int (one + m), .int (max 1 (one - m))] := by
      unfold intI
      rw [List.map_append]
      rfl
    have ex : mExt (.loc f) [.lst [.int one, .int (one + 1), .int (max 1 (one - 1)), .int (one + m), .int (max 1 (one - m))]] S = .ok .non (S.set f (.lst (intI (l ++ [one, one + 1, max 1 (one - 1), one + m, max 1 (one - m)])))) := by
      rw [e]
      unfold mExt
      simp only [h.at_]
      exact if_pos zl
    have ha := h.at_
    rw [at_b_law_probes_0]
    rw [← max_one, ← max_one] at ex ⊢
    unfold rowT
    generalize (S.set f (.lst (intI (l ++ [one, one + 1, (if one - 1 > 1 then one - 1 else 1), one + m, (if one - m > 1 then one - m else 1)])))) = S2 at ex ⊢
    generalize intI cs = CS
    generalize intI ch = CH
    generalize (m : Int) = M at *
    simp -implicitDefEqProofs [ha, ex]
  · intro a ha
    rcases List.mem_append.mp ha with ha | ha
    · exact h.ge a ha
    · simp at ha
      omega
  · rw [List.length_append]
    simp
    omega
theorem app_one {S : Sto} {f k : Nat} {l : List Int} {x : Int} (h : Ask S f l k) (hk : k ≤ 1000000) (hx : 1 ≤ x ∧ x < 2 ^ 300) :
    mApp (.loc f) [.int x] S = .ok .non (S.set f (.lst (intI (l ++ [x])))) ∧ Ask (S.set f (.lst (intI (l ++ [x])))) f (l ++ [x]) (k + 1) ∧ ∀ j, j ≠ f → (S.set f (.lst (intI (l ++ [x]))))[j]? = S[j]? := by
  have lf : f < S.length := (List.getElem?_eq_some_iff.mp h.at_).1
  have hl := h.ln
  have zl : (intI l).length < 16777216 := by unfold intI; rw [List.length_map]; omega
  have e : intI (l ++ [x]) = intI l ++ [.int x] := by unfold intI; rw [List.map_append]; rfl
  refine ⟨?_, ⟨by rw [List.getElem?_set_self lf], fun a ha => ?_, by rw [List.length_append, List.length_singleton]; omega⟩, fun j hj => by rw [List.getElem?_set_ne (Ne.symm hj)]⟩
  · rw [e]
    unfold mApp
    simp only [h.at_]
    exact if_pos zl
  · rcases List.mem_append.mp ha with ha | ha
    · exact h.ge a ha
    · have := List.mem_singleton.mp ha
      omega
theorem prb_row {S : Sto} {f n m k : Nat} {l cs ch : List Int} {R : D} {a4 : Option D} {t : Int} (h : Ask S f l k) (hk : k ≤ 100000) (r : Row m cs ch) (hp : Pot S n t) (ht : t < 2 ^ 55) (hn : n ≠ f) :
    ∃ S' a4', b_law_probes_1 [some (.loc n), some R, some (.loc f), some (rowT m cs ch), a4] S = .nx [some (.loc n), some R, some (.loc f), some (rowT m cs ch), a4'] S' ∧ (∃ l', Ask S' f l' (k + 5 * ch.length + 2)) ∧ Pot S' n (t + 3) ∧ S'.length = S.length ∧ ∀ j, j ≠ f → j ≠ n → S'[j]? = S[j]? := by
  have m1 := r.m1
  have m2 := r.m2
  have hl := r.hl
  have cl : (intI ch).length = ch.length := List.length_map _
  obtain ⟨sg', S1, e1, y4, hsg, ⟨l1, h1⟩, g1, o1⟩ := for_toN (ck := fun _ => True) (t := .one 4) (g := b_law_probes_0) (l := intI ch) (sg := [some (.loc n), some R, some (.loc f), some (rowT m cs ch), a4]) (st := S)
    (fun i sg S1 => ∃ y4, sg = [some (.loc n), some R, some (.loc f), some (rowT m cs ch), y4] ∧ (∃ l', Ask S1 f l' (k + 5 * i)) ∧ S1.length = S.length ∧ ∀ j, j ≠ f → S1[j]? = S[j]?)
    ⟨a4, rfl, ⟨l, h⟩, rfl, fun _ _ => rfl⟩ (fun _ _ _ _ => trivial) fun i x sg S1 hx ⟨y4, hsg, ⟨l1, h1⟩, g1, o1⟩ => by
      subst hsg
      have hi : i < ch.length := by
        have := (List.getElem?_eq_some_iff.mp hx).1
        rwa [cl] at this
      have hm := List.mem_of_getElem? hx
      unfold intI at hm
      obtain ⟨one, ho, rfl⟩ := List.mem_map.mp hm
      refine ⟨_, rfl, ?_⟩
      obtain ⟨S2, e, ⟨l2, h2⟩, g2, o2⟩ := prb_in (n := n) (R := R) (cs := cs) (ch := ch) h1 (by omega) (r.hr one ho).1 (r.hr one ho).2 m1 m2
      show Flw.to _ (b_law_probes_0 [some (.loc n), some R, some (.loc f), some (rowT m cs ch), some (.int one)] S1)
      rw [e]
      exact ⟨_, rfl, ⟨l2, h2.at_, h2.ge, by have := h2.ln; omega⟩, g2.trans g1, fun j hj => (o2 j hj).trans (o1 j hj)⟩
  subst hsg
  rw [cl] at h1
  have p1 : Pot S1 n t := hp.cg (o1 n hn)
  obtain ⟨a, s2, e2, a0, a1, d2⟩ := dip_dr (m := 10 ^ 30) p1 (by omega) (by decide) (by decide)
  obtain ⟨b, s3, e3, b0, b1, d3⟩ := dip_dr (m := (m : Int)) d2.pot (by omega) (by omega) (by omega)
  have d23 := d2.trans d3
  have hA : Ask s3 f l1 (k + 5 * ch.length) := ⟨by rw [d23.oth f (Ne.symm hn)]; exact h1.at_, h1.ge, h1.ln⟩
  have pos : 0 ≤ (m : Int) * (1 + a) := Int.mul_nonneg (by omega) (by omega)
  have pos2 : 1 ≤ (m : Int) * (1 + a) := by
    have := Int.mul_le_mul (a := 1) (b := 1) (c := (m : Int)) (d := 1 + a) (by omega) (by omega) (by omega) (by omega)
    omega
  have ub : (m : Int) * (1 + a) ≤ 720 * 10 ^ 30 := Int.mul_le_mul (by omega) (by omega) (by omega) (by omega)
  obtain ⟨e4, h4, o4⟩ := app_one hA (by omega) (x := (m : Int) * (1 + a) + b) (by omega)
  have p4 := d23.pot.cg (o4 n hn)
  obtain ⟨c, s5, e5, c0, c1, d5⟩ := dip_dr (m := 10 ^ 55) p4 (by omega) (by decide) (by decide)
  have h5 : Ask s5 f (l1 ++ [(m : Int) * (1 + a) + b]) (k + 5 * ch.length + 1) := ⟨by rw [d5.oth f (Ne.symm hn)]; exact h4.at_, h4.ge, h4.ln⟩
  obtain ⟨e6, h6, o6⟩ := app_one h5 (by omega) (x := 1 + c) (by omega)
  refine ⟨_, y4, ?_, ⟨_, h6⟩, (d5.pot.cg (o6 n hn)).le (by omega), ?_, fun j j1 j2 => ?_⟩
  · have mo : mulOk (m : Int) (1 + a) := (Bd.of (n := 20) (by omega) (by omega)).mulOk (Bd.of (n := 120) (by omega) (by omega))
    have p30 : powOk 10 30 := by decide
    have p55 : powOk 10 55 := by decide
    have e2' : F_law_draw [.loc n, .int 1000000000000000000000000000000] S1 = .ok (.int a) s2 := e2
    have e5' : F_law_draw [.loc n, .int 10000000000000000000000000000000000000000000000000000000] (s3.set f (.lst (intI (l1 ++ [(m : Int) * (1 + a) + b])))) = .ok (.int c) s5 := e5
    have hB := hA.at_
    have hC := h5.at_
    have hA1 := h1.at_
    have hA4 := h4.at_
    clear e2 e5 h6 o6 h5 d5 h4 p4 o4 hA h1 d23 d2 d3
    rw [at_b_law_probes_1]
    unfold rowT at *
    generalize S1.set f (.lst (intI l1)) = X1 at *
    generalize s5.set f (.lst (intI (l1 ++ [(m : Int) * (1 + a) + b] ++ [1 + c]))) = X6 at *
    generalize s3.set f (.lst (intI (l1 ++ [(m : Int) * (1 + a) + b]))) = X4 at *
    generalize intI (l1 ++ [(m : Int) * (1 + a) + b]) = L2 at *
    generalize intI l1 = L1 at *
    generalize intI ch = CH at *
    generalize intI cs = CS at *
    generalize (m : Int) = M at *
    simp -implicitDefEqProofs [e1, p30, p55, e2', e3, mo, hB, hA1, hA4, e4, e5', hC, e6]
  · rw [List.length_set, d5.len, List.length_set, d23.len, g1]
  · rw [o6 j j1, d5.oth j j2, o4 j j1, d23.oth j j2, o1 j j1]
end Law
/-! sets of distances: probes -/
namespace Law
open PySem Sh
structure Rw where
  m : Nat
  cs : List Int
  ch : List Int
def Rw.ok (r : Rw) : Prop := Row r.m r.cs r.ch
def Rw.d (r : Rw) : D := rowT r.m r.cs r.ch
theorem rg_ints : rgD 1 25 = intI ((List.range 24).map fun (k : Nat) => 1 + (k : Int)) := by
  unfold rgD intI
  rw [List.map_map]
  rfl
theorem probes_ok {n : Nat} {t : Int} {st : Sto} {rs : List Rw} (hr : ∀ r ∈ rs, r.ok) (hl : rs.length ≤ 10) (hp : Pot st n t) (ht : t < 2 ^ 54) (hpu : PuS st) :
    ∃ (l : List Int) (st' : Sto), F_law_probes [.loc n, .lst (rs.map Rw.d)] st = .ok (.lst (intI l)) st' ∧ (∀ a ∈ l, 1 ≤ a ∧ a < 2 ^ 300) ∧ l.length ≤ 60000 ∧ Drw n (t + 30) st st' := by
  have nl : n < st.length := hp.lt
  obtain ⟨sg', S, e2, y3, y4, hsg, ⟨l, h2⟩, p2, l2, o2⟩ := for_toN (ck := fun _ => True) (t := .one 3) (g := b_law_probes_1) (l := rs.map Rw.d) (sg := [some (.loc n), some (.lst (rs.map Rw.d)), some (.loc st.length), none, none]) (st := st ++ [.lst (rgD 1 25)])
    (fun i sg S => ∃ y3 y4, sg = [some (.loc n), some (.lst (rs.map Rw.d)), some (.loc st.length), y3, y4] ∧ (∃ l, Ask S st.length l (24 + 5002 * i)) ∧ Pot S n (t + 3 * (i : Int)) ∧ S.length = st.length + 1 ∧ ∀ j, j ≠ st.length → j ≠ n → S[j]? = st[j]?)
    ⟨none, none, rfl, ⟨_, by rw [rg_ints, List.getElem?_append_right (Nat.le_refl _), Nat.sub_self]; rfl, fun a ha => by
      obtain ⟨k, hk, rfl⟩ := List.mem_map.mp ha
      have := List.mem_range.mp hk
      omega, by simp⟩, (hp.append _).le (by omega), by simp, fun j h1 h2 => by
      by_cases z : j < st.length
      · rw [List.getElem?_append_left z]
      · rw [List.getElem?_eq_none (by simp; omega), List.getElem?_eq_none (by omega)]⟩ (fun _ _ _ _ => trivial) fun i x sg S hx ⟨y3, y4, hsg, ⟨l, h⟩, p, ll, o⟩ => by
      subst hsg
      have hi : i < rs.length := by
        have := (List.getElem?_eq_some_iff.mp hx).1
        rwa [List.length_map] at this
      obtain ⟨r, hm, rfl⟩ := List.mem_map.mp (List.mem_of_getElem? hx)
      refine ⟨_, rfl, ?_⟩
      obtain ⟨S2, y4', e, ⟨l2, h2⟩, p2, g2, o2⟩ := prb_row (R := .lst (rs.map Rw.d)) (a4 := y4) h (by omega) (hr r hm) p (by omega) (by omega)
      show Flw.to _ (b_law_probes_1 [some (.loc n), some (.lst (rs.map Rw.d)), some (.loc st.length), some (rowT r.m r.cs r.ch), y4] S)
      rw [e]
      refine ⟨_, _, rfl, ⟨l2, h2.at_, h2.ge, ?_⟩, p2.le (by omega), g2.trans ll, fun j j1 j2 => (o2 j j1 j2).trans (o j j1 j2)⟩
      have := h2.ln
      have := (hr r hm).hl
      omega
  subst hsg
  rw [List.length_map] at h2 p2
  have core : fnF 5 g_law_probes [.loc n, .lst (rs.map Rw.d)] st = .ok (.loc st.length) S := by
    have rl : (rs.map Rw.d).length ≤ 16777216 := by rw [List.length_map]; omega
    have ro : kRgLN 1 25 st = .ok (.loc st.length) (st ++ [.lst (rgD 1 25)]) := by
      unfold kRgLN
      rw [if_pos (by decide)]
    generalize st ++ [SO.lst (rgD 1 25)] = S0 at *
    generalize rs.map Rw.d = RS at *
    simp -implicitDefEqProofs [g_law_probes, ro, e2, rl]
  have d : Drw n (t + 30) st (S.take st.length) := by
    refine ⟨(p2.cg (List.getElem?_take_of_lt nl)).le (by omega), by rw [List.length_take]; omega, fun m hm => ?_⟩
    by_cases z : m < st.length
    · rw [List.getElem?_take_of_lt z, o2 m (by omega) hm]
    · rw [List.getElem?_eq_none (by rw [List.length_take]; omega), List.getElem?_eq_none (by omega)]
  exact ⟨l, _, frz_ok core (Nat.le_refl _) h2.at_ (intI_pus l) (d.pus hpu), h2.ge, by have := h2.ln; omega, d⟩
end Law
/-! sets of distances: how many of 1 .. k -/
namespace Law
def cnt (g : Int → Bool) : Nat → Int
  | 0 => 0
  | k + 1 => cnt g k + b2n (g ((k + 1 : Nat) : Int))
theorem b2n_0 (b : Bool) : 0 ≤ b2n b := by cases b <;> decide
theorem b2n_1 (b : Bool) : b2n b ≤ 1 := by cases b <;> decide
theorem cnt_0 (g : Int → Bool) : ∀ k, 0 ≤ cnt g k
  | 0 => Int.le_refl _
  | k + 1 => Int.add_nonneg (cnt_0 g k) (b2n_0 _)
theorem cnt_mono (g : Int → Bool) (a : Nat) : ∀ k, cnt g a ≤ cnt g (a + k)
  | 0 => Int.le_refl _
  | k + 1 => by
    have := cnt_mono g a k
    have := b2n_0 (g ((a + k + 1 : Nat) : Int))
    show _ ≤ cnt g (a + k) + b2n (g ((a + k + 1 : Nat) : Int))
    omega
theorem cnt_le (g : Int → Bool) {a b : Nat} (h : a ≤ b) : cnt g a ≤ cnt g b := by
  obtain ⟨k, rfl⟩ := Nat.le.dest h
  exact cnt_mono g a k
theorem cnt_add {g h : Int → Bool} {e : Nat} (hh : ∀ i : Nat, 1 ≤ i → g ((e + i : Nat) : Int) = h (i : Int)) : ∀ k, cnt g (e + k) = cnt g e + cnt h k
  | 0 => by simp [cnt]
  | k + 1 => by
    have := cnt_add hh k
    show cnt g (e + k) + b2n (g ((e + k + 1 : Nat) : Int)) = cnt g e + (cnt h k + b2n (h ((k + 1 : Nat) : Int)))
    rw [this, show e + k + 1 = e + (k + 1) by omega, hh (k + 1) (by omega)]
    omega
theorem cnt_cg {g h : Int → Bool} (hh : ∀ i : Nat, 1 ≤ i → g (i : Int) = h (i : Int)) (k : Nat) : cnt g k = cnt h k := by
  have := cnt_add (g := g) (h := h) (e := 0) (fun i hi => by rw [Nat.zero_add]; exact hh i hi) k
  simp [cnt] at this
  exact this
/-- f goes round in p places -/
def Rnd (g : Int → Bool) (p : Nat) : Prop := ∀ i : Nat, g ((p + i : Nat) : Int) = g (i : Int)
theorem cnt_rounds {g : Int → Bool} {p : Nat} (h : Rnd g p) : ∀ q r, cnt g (p * q + r) = q * cnt g p + cnt g r
  | 0, r => by simp
  | q + 1, r => by
    have e1 : p * (q + 1) + r = p + (p * q + r) := by rw [Nat.mul_add]; omega
    have e2 := cnt_add (g := g) (h := g) (e := p) (fun i _ => h i) (p * q + r)
    rw [e1, e2, cnt_rounds h q r]
    have : ((q + 1 : Nat) : Int) * cnt g p = cnt g p + q * cnt g p := by
      rw [Int.natCast_add, Int.add_mul]
      omega
    omega
theorem cnt_div {g : Int → Bool} {p : Nat} (h : Rnd g p) (k : Nat) : cnt g k = ((k / p : Nat) : Int) * cnt g p + cnt g (k % p) := by
  rw [← cnt_rounds h, Nat.div_add_mod]
theorem cnt_none {g : Int → Bool} {p : Nat} (h : cnt g p = 0) {i : Nat} (h1 : 1 ≤ i) (h2 : i ≤ p) : g (i : Int) = false := by
  have a := cnt_le g h2
  have b := cnt_0 g (i - 1)
  match i, h1 with
  | i + 1, _ =>
    have : cnt g (i + 1) = cnt g i + b2n (g ((i + 1 : Nat) : Int)) := rfl
    have c := cnt_0 g i
    cases d : g ((i + 1 : Nat) : Int) with
    | false => rfl
    | true =>
      rw [d] at this
      have : b2n true = 1 := rfl
      omega
theorem rnd_mod {g : Int → Bool} {p : Nat} (h : Rnd g p) : ∀ i : Nat, g (i : Int) = g ((i % p : Nat) : Int) := fun i => by
  have k : ∀ q r : Nat, g ((p * q + r : Nat) : Int) = g (r : Int) := fun q r => by
    induction q with
    | zero => simp
    | succ q ih => rw [show p * (q + 1) + r = p + (p * q + r) by rw [Nat.mul_add]; omega, h, ih]
  have := k (i / p) (i % p)
  rw [Nat.div_add_mod] at this
  exact this
theorem rnd_none {g : Int → Bool} {p : Nat} (hp : 1 ≤ p) (h : Rnd g p) (z : cnt g p = 0) (i : Nat) : g (i : Int) = false := by
  rw [rnd_mod h]
  by_cases c : i % p = 0
  · rw [c]
    have := h 0
    rw [Nat.add_zero] at this
    rw [← this]
    exact cnt_none z hp (Nat.le_refl _)
  · exact cnt_none z (by omega) (Nat.le_of_lt (Nat.mod_lt _ (by omega)))
/-- the changed ones up to L -/
def flp (h : Int → Bool) : List Int → Int → Int
  | [], _ => 0
  | d :: r, L => (if d ≤ L then (if h d = true then -1 else 1) else 0) + flp h r L
theorem flp_0 {h : Int → Bool} : ∀ {ss : List Int}, (∀ d ∈ ss, 1 ≤ d) → flp h ss 0 = 0
  | [], _ => rfl
  | d :: r, hd => by
    have := hd d List.mem_cons_self
    have i := flp_0 (h := h) (ss := r) fun x hx => hd x (List.mem_cons_of_mem _ hx)
    show (if d ≤ 0 then _ else 0) + flp h r 0 = 0
    rw [if_neg (by omega), i]
    rfl
theorem flp_s {h : Int → Bool} {k : Int} : ∀ {ss : List Int}, ss.Nodup → flp h ss (k + 1) = flp h ss k + (if k + 1 ∈ ss then (if h (k + 1) = true then -1 else 1) else 0)
  | [], _ => rfl
  | d :: r, hn => by
    have hr := (List.nodup_cons.mp hn)
    have i := flp_s (h := h) (k := k) hr.2
    show (if d ≤ k + 1 then (if h d = true then (-1 : Int) else 1) else 0) + flp h r (k + 1) = (if d ≤ k then (if h d = true then -1 else 1) else 0) + flp h r k + _
    rw [i]
    by_cases c : d = k + 1
    · subst c
      rw [if_pos (Int.le_refl _), if_neg (show ¬ k + 1 ≤ k by omega), if_neg hr.1, if_pos List.mem_cons_self]
      omega
    · have m : (k + 1 ∈ d :: r) ↔ k + 1 ∈ r := ⟨fun z => (List.mem_cons.mp z).elim (fun e => absurd e.symm c) id, List.mem_cons_of_mem _⟩
      have l : d ≤ k + 1 ↔ d ≤ k := by omega
      simp only [m, l]
      omega
/-- a set by its rounds and its changed distances -/
def gof (h : Int → Bool) (ss : List Int) (k : Int) : Bool := h k != decide (k ∈ ss)
theorem cnt_gof {h : Int → Bool} {ss : List Int} (hn : ss.Nodup) (hs : ∀ d ∈ ss, 1 ≤ d) : ∀ k : Nat, cnt (gof h ss) k = cnt h k + flp h ss k
  | 0 => by
    show (0 : Int) = 0 + flp h ss 0
    rw [flp_0 hs]
    rfl
  | k + 1 => by
    have i := cnt_gof (h := h) hn hs k
    have e := flp_s (h := h) (k := k) hn
    show cnt (gof h ss) k + b2n (gof h ss ((k + 1 : Nat) : Int)) = cnt h k + b2n (h ((k + 1 : Nat) : Int)) + flp h ss ((k + 1 : Nat) : Int)
    rw [i, show ((k + 1 : Nat) : Int) = (k : Int) + 1 by omega, e]
    unfold gof
    by_cases c : (k : Int) + 1 ∈ ss
    · rw [if_pos c, decide_eq_true c]
      cases h ((k : Int) + 1) <;> simp [b2n] <;> omega
    · rw [if_neg c, decide_eq_false c]
      cases h ((k : Int) + 1) <;> simp [b2n] <;> omega
/-- behind the last changed distance -/
theorem gof_end {h : Int → Bool} {ss : List Int} {k : Int} (hs : ∀ d ∈ ss, d < k) : gof h ss k = h k := by
  unfold gof
  rw [decide_eq_false fun z => by have := hs k z; omega]
  cases h k <;> rfl
/-- rounds behind the end -/
theorem cnt_end {h : Int → Bool} {ss : List Int} {p e : Nat} (hr : Rnd h p) (hs : ∀ d ∈ ss, d < e) : ∀ n : Nat, (n : Int) * cnt h p ≤ cnt (gof h ss) (e + p * n) := fun n => by
  have a := cnt_add (g := gof h ss) (h := fun i => h ((e : Int) + i)) (e := e) (fun i hi => by
    rw [gof_end fun d hd => by have := hs d hd; omega]
    congr 1) (p * n)
  have b := cnt_add (g := h) (h := fun i => h ((e : Int) + i)) (e := e) (fun i hi => by
    congr 1) (p * n)
  have c := cnt_rounds hr n e
  have d := cnt_0 (gof h ss) e
  rw [show p * n + e = e + p * n by omega] at c
  rw [a]
  omega
/-- sets without rounds -/
theorem cnt_fin {h : Int → Bool} {ss : List Int} {e : Nat} (h0 : ∀ i : Nat, h (i : Int) = false) (hn : ss.Nodup) (h1 : ∀ d ∈ ss, 1 ≤ d) : (∀ k : Nat, cnt (gof h ss) k ≤ ss.length) ∧ ((∀ d ∈ ss, d ≤ e) → cnt (gof h ss) e = ss.length) := by
  have z : ∀ k, cnt h k = 0 := fun k => by
    induction k with
    | zero => rfl
    | succ k ih =>
      show cnt h k + b2n (h ((k + 1 : Nat) : Int)) = 0
      rw [ih, h0]
      rfl
  have hd : ∀ d ∈ ss, h d = false := fun d hd => by
    obtain ⟨n, hn⟩ := Int.eq_ofNat_of_zero_le (show 0 ≤ d by have := h1 d hd; omega)
    rw [hn]
    exact h0 n
  have f1 : ∀ (ss : List Int) (L : Int), (∀ d ∈ ss, h d = false) → flp h ss L ≤ ss.length ∧ ((∀ d ∈ ss, d ≤ L) → flp h ss L = ss.length) := fun ss L => by
    induction ss with
    | nil => intro _; exact ⟨Int.le_refl _, fun _ => rfl⟩
    | cons d r ih =>
      intro hd
      obtain ⟨i1, i2⟩ := ih fun x hx => hd x (List.mem_cons_of_mem _ hx)
      have e : flp h (d :: r) L = (if d ≤ L then (if h d = true then -1 else 1) else 0) + flp h r L := rfl
      rw [hd d List.mem_cons_self] at e
      have ln : ((d :: r).length : Int) = r.length + 1 := by simp
      refine ⟨?_, fun hl => ?_⟩
      · rw [e, ln]
        by_cases c : d ≤ L
        · rw [if_pos c]; simp; omega
        · rw [if_neg c]; omega
      · rw [e, ln, i2 fun x hx => hl x (List.mem_cons_of_mem _ hx), if_pos (hl d List.mem_cons_self)]
        simp
        omega
  exact ⟨fun k => by rw [cnt_gof hn h1, z]; have := (f1 ss k hd).1; omega, fun hl => by rw [cnt_gof hn h1, z, (f1 ss e hd).2 hl]; omega⟩
/-- the least k at which n are counted, or none -/
inductive Mem (g : Int → Bool) (n : Int) : Option Nat → Prop
  | no (h : ∀ k, cnt g k < n) : Mem g n none
  | hit {k : Nat} (h1 : cnt g k < n) (h2 : n ≤ cnt g (k + 1)) : Mem g n (some (k + 1))
theorem Mem.is {g : Int → Bool} {n : Int} {k : Nat} (h : Mem g n (some k)) : 1 ≤ k ∧ g (k : Int) = true ∧ cnt g k = n := by
  cases h with
  | @hit j h1 h2 =>
    have e : cnt g (j + 1) = cnt g j + b2n (g ((j + 1 : Nat) : Int)) := rfl
    refine ⟨by omega, ?_, ?_⟩
    · cases c : g ((j + 1 : Nat) : Int) with
      | true => rfl
      | false =>
        rw [c] at e
        have : b2n false = 0 := rfl
        omega
    · have := b2n_1 (g ((j + 1 : Nat) : Int))
      omega
end Law
/-! sets of distances: the next one -/
namespace Law
/-- the least k behind s that is in g, or none -/
inductive Nxt (g : Int → Bool) (s : Nat) : Option Nat → Prop
  | no (h : ∀ j : Nat, s < j → g (j : Int) = false) : Nxt g s none
  | hit {k : Nat} (h1 : s < k) (h2 : g (k : Int) = true) (h3 : ∀ j : Nat, s < j → j < k → g (j : Int) = false) : Nxt g s (some k)
theorem cnt_same {g : Int → Bool} {s k : Nat} (h : cnt g k ≤ cnt g s) {j : Nat} (h1 : s < j) (h2 : j ≤ k) : g (j : Int) = false := by
  match j, h1 with
  | j + 1, h1 =>
    have a := cnt_le g (show s ≤ j by omega)
    have b := cnt_le g h2
    have e : cnt g (j + 1) = cnt g j + b2n (g ((j + 1 : Nat) : Int)) := rfl
    cases c : g ((j + 1 : Nat) : Int) with
    | false => rfl
    | true =>
      rw [c] at e
      have : b2n true = 1 := rfl
      omega
theorem Mem.next {g : Int → Bool} {s : Nat} {x : Option Nat} (h : Mem g (cnt g s + 1) x) : Nxt g s x := by
  cases h with
  | no h => exact .no fun j hj => cnt_same (k := j) (by have := h j; omega) hj (Nat.le_refl _)
  | @hit k h1 h2 =>
    have sk : s < k + 1 := Nat.lt_of_not_le fun z => by have := cnt_le g z; omega
    refine .hit sk (Mem.is (.hit h1 h2)).2.1 fun j j1 j2 => cnt_same (k := k) (by omega) j1 (by omega)
theorem Nxt.uniq {g : Int → Bool} {s : Nat} {x y : Option Nat} (h : Nxt g s x) (k : Nxt g s y) : x = y := by
  cases h with
  | no h =>
    cases k with
    | no k => rfl
    | hit k1 k2 k3 => rw [h _ k1] at k2; cases k2
  | @hit a h1 h2 h3 =>
    cases k with
    | no k => rw [k _ h1] at h2; cases h2
    | @hit b k1 k2 k3 =>
      rcases Nat.lt_trichotomy a b with c | c | c
      · rw [k3 a h1 c] at h2; cases h2
      · rw [c]
      · rw [h3 b k1 c] at k2; cases k2
/-- the least of a list from which none is left out -/
theorem nxt_min {g : Int → Bool} {s : Nat} {l : List Int} {m : Int} (h1 : ∀ x ∈ l, (s : Int) < x ∧ g x = true) (h2 : ∀ k : Nat, s < k → g (k : Int) = true → ∃ x ∈ l, x ≤ (k : Int)) (hm : m ∈ l) (hl : ∀ x ∈ l, m ≤ x) : ∃ k : Nat, (k : Int) = m ∧ Nxt g s (some k) := by
  obtain ⟨a, b⟩ := h1 m hm
  obtain ⟨k, rfl⟩ := Int.eq_ofNat_of_zero_le (show 0 ≤ m by omega)
  refine ⟨k, rfl, .hit (by omega) b fun j j1 j2 => ?_⟩
  cases c : g (j : Int) with
  | false => rfl
  | true =>
    obtain ⟨x, hx, le⟩ := h2 j j1 c
    have := hl x hx
    omega
theorem nxt_nil {g : Int → Bool} {s : Nat} (h2 : ∀ k : Nat, s < k → g (k : Int) = true → ∃ x ∈ ([] : List Int), x ≤ (k : Int)) : Nxt g s none := .no fun j hj => by
  cases c : g (j : Int) with
  | false => rfl
  | true =>
    obtain ⟨x, hx, _⟩ := h2 j hj c
    cases hx
end Law
/-! sets of distances: as they lie -/
namespace Law
structure St where
  f : Nat → Bool
  p : Nat
  ss : List Int
structure St.Ok (s : St) (P L : Nat) : Prop where
  lst : Lst s.f s.p
  pl : s.p ≤ P
  asc : s.ss.Pairwise (· < ·)
  s1 : ∀ d ∈ s.ss, 1 ≤ d
  bd : ∀ d ∈ s.ss, d < 2 ^ 220
  ln : s.ss.length ≤ L
def St.h (s : St) (k : Int) : Bool := s.f k.toNat
def St.g (s : St) : Int → Bool := gof s.h s.ss
theorem St.h_nat (s : St) (k : Nat) : s.h (k : Int) = s.f k := by unfold St.h; rw [Int.toNat_natCast]
theorem St.Ok.nodup {s : St} {P L : Nat} (o : s.Ok P L) : s.ss.Nodup := o.asc.imp fun h => by omega
theorem St.Ok.rnd {s : St} {P L : Nat} (o : s.Ok P L) : Rnd s.h s.p := fun i => by
  rw [s.h_nat, s.h_nat, Nat.add_comm]
  exact o.lst.go i
theorem St.Ok.p1 {s : St} {P L : Nat} (o : s.Ok P L) : 1 ≤ s.p := o.lst.d1
theorem far (ss : List Int) : ∃ N : Nat, ∀ d ∈ ss, d < (N : Int) := by
  induction ss with
  | nil => exact ⟨0, fun d h => by cases h⟩
  | cons a r ih =>
    obtain ⟨N, h⟩ := ih
    refine ⟨N + a.toNat + 1, fun d hd => ?_⟩
    rcases List.mem_cons.mp hd with rfl | hd
    · omega
    · have := h d hd
      omega
/-- what is in a set tells how it lies -/
theorem St.uniq {s t : St} {P L P' L' : Nat} (hs : s.Ok P L) (ht : t.Ok P' L') (h : ∀ k : Nat, 1 ≤ k → s.g (k : Int) = t.g (k : Int)) : s = t := by
  obtain ⟨N, hN⟩ := far (s.ss ++ t.ss)
  have fe : s.f = t.f := by
    funext i
    have e1 := (hs.lst.go.mul (t.p * (N + 1))) i
    have e2 := (ht.lst.go.mul (s.p * (N + 1))) i
    have p1 := hs.p1
    have p2 := ht.p1
    have q : s.p * (t.p * (N + 1)) = t.p * (s.p * (N + 1)) := Nat.mul_left_comm _ _ _
    have big : N + 1 ≤ t.p * (s.p * (N + 1)) := Nat.le_trans (Nat.le_mul_of_pos_left _ p1) (Nat.le_mul_of_pos_left _ p2)
    rw [q] at e1
    generalize t.p * (s.p * (N + 1)) = M at *
    have := h (i + M) (by omega)
    unfold St.g at this
    rw [gof_end (fun d hd => by have := hN d (List.mem_append_left _ hd); omega), gof_end (fun d hd => by have := hN d (List.mem_append_right _ hd); omega), s.h_nat, t.h_nat, e1, e2] at this
    exact this
  obtain ⟨f, p, ss⟩ := s
  obtain ⟨f', p', ss'⟩ := t
  simp only at fe
  subst fe
  have pe : p = p' := hs.lst.uniq ht.lst
  have se : ss = ss' := L2.asc_uniq hs.asc ht.asc fun k => by
    have key : ∀ n : Nat, 1 ≤ n → (((n : Int) ∈ ss) ↔ ((n : Int) ∈ ss')) := fun n hn => by
      have := h n hn
      unfold St.g gof at this
      simp only [St.h_nat] at this
      have e : decide ((n : Int) ∈ ss) = decide ((n : Int) ∈ ss') := by
        generalize decide ((n : Int) ∈ ss) = A at *
        generalize decide ((n : Int) ∈ ss') = B at *
        revert this
        cases f n <;> cases A <;> cases B <;> simp
      exact decide_eq_decide.mp e
    by_cases c : 1 ≤ k
    · obtain ⟨n, rfl⟩ := Int.eq_ofNat_of_zero_le (show 0 ≤ k by omega)
      exact key n (by omega)
    · exact ⟨fun z => absurd (hs.s1 k z) c, fun z => absurd (ht.s1 k z) c⟩
  rw [pe, se]
/-- how many are up to k -/
theorem St.Ok.cnt {s : St} {P L : Nat} (o : s.Ok P L) (k : Nat) : cnt s.g k = ((k / s.p : Nat) : Int) * cnt s.h s.p + cnt s.h (k % s.p) + flp s.h s.ss k := by
  unfold St.g
  rw [cnt_gof o.nodup o.s1, ← cnt_div o.rnd]
/-- the end of the changes -/
theorem end_gt {ss : List Int} (h : ss.Pairwise (· < ·)) : ∀ d ∈ ss, d < (match ss.getLast? with | some x => x + 1 | none => 1) := fun d hd => by
  rcases List.eq_nil_or_concat ss with hc | ⟨r, x, hc⟩
  · subst hc
    cases hd
  · rw [List.concat_eq_append] at hc
    subst hc
    simp only [List.getLast?_append, List.getLast?_singleton, Option.some_or]
    rcases List.mem_append.mp hd with hd | hd
    · have := (List.pairwise_append.mp h).2.2 d hd x (List.mem_singleton_self _)
      omega
    · rw [List.mem_singleton.mp hd]
      omega
/-- some k at which n are counted, if there is one -/
theorem St.Ok.high {s : St} {P L : Nat} (o : s.Ok P L) {e n : Nat} (he : ∀ d ∈ s.ss, d < (e : Int)) (h : Law.cnt s.g (e + (if 0 < Law.cnt s.h s.p then s.p * n else 0)) < n) (k : Nat) : Law.cnt s.g k < n := by
  by_cases c : 0 < Law.cnt s.h s.p
  · rw [if_pos c] at h
    have a := cnt_end (ss := s.ss) o.rnd he n
    have b : (n : Int) * 1 ≤ (n : Int) * Law.cnt s.h s.p := Int.mul_le_mul_of_nonneg_left (by omega) (by omega)
    unfold St.g at h
    omega
  · rw [if_neg c] at h
    have z : Law.cnt s.h s.p = 0 := by have := cnt_0 s.h s.p; omega
    obtain ⟨f1, f2⟩ := cnt_fin (e := e) (rnd_none o.p1 o.rnd z) o.nodup o.s1
    have f2 := f2 fun d hd => by have := he d hd; omega
    have f1 := f1 k
    unfold St.g at h ⊢
    rw [Nat.add_zero] at h
    omega
end Law
/-! sets of distances: with and without end; two of them -/
namespace Law
theorem St.Ok.fin {s : St} {P L : Nat} (o : s.Ok P L) (h0 : ∀ i, s.f i = false) : (∀ k : Nat, Law.cnt s.g k ≤ s.ss.length) ∧ ∃ e : Nat, Law.cnt s.g e = s.ss.length := by
  obtain ⟨e, he⟩ := far s.ss
  obtain ⟨f1, f2⟩ := cnt_fin (h := s.h) (e := e) (fun i => by rw [s.h_nat]; exact h0 i) o.nodup o.s1
  exact ⟨f1, e, f2 fun d hd => by have := he d hd; omega⟩
theorem St.Ok.inf {s : St} {P L : Nat} (o : s.Ok P L) {i : Nat} (h1 : s.f i = true) : 0 < Law.cnt s.h s.p ∧ ∀ n : Nat, ∃ k : Nat, (n : Int) ≤ Law.cnt s.g k := by
  have c : 0 < Law.cnt s.h s.p := by
    by_cases z : Law.cnt s.h s.p = 0
    · have := rnd_none o.p1 o.rnd z i
      rw [s.h_nat, h1] at this
      cases this
    · have := cnt_0 s.h s.p
      omega
  refine ⟨c, fun n => ?_⟩
  obtain ⟨e, he⟩ := far s.ss
  exact ⟨e + s.p * n, Int.not_lt.mp fun z => Int.lt_irrefl _ (Int.lt_of_lt_of_le z (by
    have a := cnt_end (ss := s.ss) o.rnd he n
    have b : (n : Int) * 1 ≤ (n : Int) * Law.cnt s.h s.p := Int.mul_le_mul_of_nonneg_left (by omega) (by omega)
    unfold St.g
    omega))⟩
theorem St.Ok.zero_iff {s : St} {P L : Nat} (o : s.Ok P L) : Law.cnt s.h s.p = 0 ↔ ∀ i, s.f i = false := by
  refine ⟨fun z i => ?_, fun h => ?_⟩
  · rw [← s.h_nat]
    exact rnd_none o.p1 o.rnd z i
  · generalize s.p = p
    induction p with
    | zero => rfl
    | succ k ih =>
      show Law.cnt s.h k + b2n (s.h ((k + 1 : Nat) : Int)) = 0
      rw [ih, s.h_nat, h]
      rfl
/-- what comes of two sets -/
def jfl (T : Bool → Bool → Bool) (s t : St) : List Int → List Int := List.filter fun d => T (s.g d) (t.g d) != T (s.h d) (t.h d)
theorem joined_g {T : Bool → Bool → Bool} {s t u : St} {l : List Int} (hf : ∀ i, u.f i = T (s.f i) (t.f i)) (hl : ∀ d, d ∈ l ↔ d ∈ s.ss ∨ d ∈ t.ss) (hs : u.ss = jfl T s t l) (k : Int) : u.g k = T (s.g k) (t.g k) := by
  have e : u.h k = T (s.h k) (t.h k) := hf _
  show (u.h k != decide (k ∈ u.ss)) = _
  rw [hs, e]
  by_cases c : k ∈ l
  · have : decide (k ∈ jfl T s t l) = (T (s.g k) (t.g k) != T (s.h k) (t.h k)) := by
      unfold jfl
      cases b : (T (s.g k) (t.g k) != T (s.h k) (t.h k)) with
      | true => exact decide_eq_true (List.mem_filter.mpr ⟨c, b⟩)
      | false => exact decide_eq_false fun z => Bool.false_ne_true (b.symm.trans (List.mem_filter.mp z).2)
    rw [this]
    cases T (s.g k) (t.g k) <;> cases T (s.h k) (t.h k) <;> rfl
  · have : decide (k ∈ jfl T s t l) = false := decide_eq_false fun z => c (List.mem_filter.mp z).1
    rw [this]
    have n : ¬ (k ∈ s.ss ∨ k ∈ t.ss) := fun z => c ((hl k).mpr z)
    have a : s.g k = s.h k := by
      show (s.h k != decide (k ∈ s.ss)) = _
      rw [decide_eq_false fun z => n (.inl z)]
      cases s.h k <;> rfl
    have b : t.g k = t.h k := by
      show (t.h k != decide (k ∈ t.ss)) = _
      rw [decide_eq_false fun z => n (.inr z)]
      cases t.h k <;> rfl
    rw [a, b]
    cases T (s.h k) (t.h k) <;> rfl
end Law
/-! sets of distances: how many are at most a limit -/
namespace Law
open PySem Sh
def St.d (s : St) : D := setC s.f s.p s.ss
def St.pl (s : St) : D := plainD s.p ((List.range s.p).map s.f) s.ss
theorem St.d_eq (s : St) : s.d = .ins 2 [s.pl] := rfl
theorem smA_cnt {s : St} {P L : Nat} (o : s.Ok P L) : ∀ k, smA ((List.range s.p).map s.f) k = cnt s.h k
  | 0 => rfl
  | k + 1 => by
    have ih := smA_cnt o k
    have p1 := o.p1
    have lt : (k + 1) % s.p < s.p := Nat.mod_lt _ (by omega)
    have ln : ((List.range s.p).map s.f).length = s.p := by simp
    show smA _ k + b2n (((List.range s.p).map s.f).getD ((k + 1) % ((List.range s.p).map s.f).length) false) = cnt s.h k + b2n (s.h ((k + 1 : Nat) : Int))
    rw [ih, ln, s.h_nat, o.lst.go.md (k + 1)]
    congr 2
    rw [List.getD_eq_getElem?_getD, List.getElem?_map, List.getElem?_range lt]
    rfl
theorem St.Ok.flag {s : St} {P L : Nat} (o : s.Ok P L) (n : Nat) : (blsL ((List.range s.p).map s.f))[n % s.p]? = some (.bl (s.f n)) := by
  have lt : n % s.p < s.p := Nat.mod_lt _ o.p1
  unfold blsL
  rw [List.getElem?_map, List.getElem?_map, List.getElem?_range lt, o.lst.go.md n]
  rfl
theorem mny_body {s : St} {P Z : Nat} (o : s.Ok P Z) (hP : P ≤ 1000000) {d L v : Int} (hd : 1 ≤ d) {x2 x3 : Option D} (st : Sto) : b_Plainest_many_0 [some s.pl, some (.int L), x2, x3, some (.int v), some (.int d)] st = .nx [some s.pl, some (.int L), x2, x3, some (.int (v + (if d ≤ L then (if s.h d = true then -1 else 1) else 0))), some (.int d)] st := by
  obtain ⟨n, rfl⟩ := Int.eq_ofNat_of_zero_le (show 0 ≤ d by omega)
  have p1 := o.p1
  have p2 := o.pl
  have pi : (0 : Int) < (s.p : Int) := by omega
  have em : ((n : Int) % (s.p : Int)) = ((n % s.p : Nat) : Int) := (Int.natCast_emod n s.p).symm
  obtain ⟨gl, ge⟩ := List.getElem?_eq_some_iff.mp (o.flag n)
  rw [s.h_nat, at_b_Plainest_many_0]
  unfold St.pl plainD
  generalize blsL ((List.range s.p).map s.f) = GS at *
  generalize smL ((List.range s.p).map s.f) (s.p + 1) = SM at *
  generalize intI s.ss = SS at *
  generalize n % s.p = R at *
  generalize (s.p : Int) = PP at *
  by_cases c : (n : Int) ≤ L
  · cases hf : s.f n with
    | true =>
      rw [hf] at ge
      generalize (n : Int) = N at *
      simp -implicitDefEqProofs [c, pi, em, gl, ge]
    | false =>
      rw [hf] at ge
      generalize (n : Int) = N at *
      simp -implicitDefEqProofs [c, pi, em, gl, ge]
  · generalize (n : Int) = N at *
    simp -implicitDefEqProofs [c]
theorem mny_loop {s : St} {P Z : Nat} (o : s.Ok P Z) (hP : P ≤ 1000000) {L : Int} {x2 x3 : Option D} (st : Sto) : ∀ (l : List Int) (v : Int) (y : Option D), (∀ d ∈ l, 1 ≤ d) → ∃ y', forF (fun _ => True) (.one 5) b_Plainest_many_0 (intI l) [some s.pl, some (.int L), x2, x3, some (.int v), y] st = .nx [some s.pl, some (.int L), x2, x3, some (.int (v + flp s.h l L)), y'] st
  | [], v, y, _ => ⟨y, by simp [intI, forF, flp]⟩
  | d :: r, v, y, h => by
    obtain ⟨y', e⟩ := mny_loop o hP (L := L) (x2 := x2) (x3 := x3) st r (v + (if d ≤ L then (if s.h d = true then -1 else 1) else 0)) (some (.int d)) fun x hx => h x (List.mem_cons_of_mem _ hx)
    refine ⟨y', ?_⟩
    rw [show intI (d :: r) = .int d :: intI r from rfl, for_cons trivial (show setT (.one 5) (.int d) [some s.pl, some (.int L), x2, x3, some (.int v), y] = some [some s.pl, some (.int L), x2, x3, some (.int v), some (.int d)] from rfl), mny_body o hP (h d List.mem_cons_self)]
    show forF _ _ _ _ _ _ = _
    rw [e, Int.add_assoc]
    rfl
theorem smL_at {fs : List Bool} {k j : Nat} (h : j < k) : (smL fs k)[j]? = some (.int (smA fs j)) := by
  unfold smL
  rw [List.getElem?_map, List.getElem?_range h]
  rfl
theorem smL_end {fs : List Bool} {k : Nat} (st : Sto) : dIx (.lst (smL fs (k + 1))) (.int (-1)) st = .ok (.int (smA fs k)) st := by
  rw [smL_succ]
  generalize smL fs k = A
  have h1 : (1 : Int) ≤ (A.length : Int) + 1 := by omega
  have h2 : ((-1 : Int) + ((A.length : Int) + 1)).toNat = A.length := by omega
  simp -implicitDefEqProofs [h1, h2]
theorem cnt_bd (g : Int → Bool) : ∀ k : Nat, cnt g k ≤ k
  | 0 => Int.le_refl _
  | k + 1 => by
    have := cnt_bd g k
    have := b2n_1 (g ((k + 1 : Nat) : Int))
    show cnt g k + b2n (g ((k + 1 : Nat) : Int)) ≤ _
    omega
theorem many_ok {s : St} {P Z : Nat} (o : s.Ok P Z) (hP : P ≤ 1000000) (hZ : Z ≤ 1000000) {L : Nat} (hL : L < 2 ^ 3000) (st : Sto) : F_Plainest_many [s.pl, .int L] st = .ok (.int (cnt s.g L)) st := by
  have p1 := o.p1
  have p2 := o.pl
  have pi : (0 : Int) < (s.p : Int) := by omega
  have dp : divOk (s.p : Int) := Bd.divOk (n := 60) (Bd.of (by omega) (by omega)) (by decide)
  have em : ((L : Int) % (s.p : Int)) = ((L % s.p : Nat) : Int) := (Int.natCast_emod L s.p).symm
  have ed : ((L : Int) / (s.p : Int)) = ((L / s.p : Nat) : Int) := (Int.natCast_ediv L s.p).symm
  have lt : L % s.p < s.p := Nat.mod_lt _ p1
  have ie := fun st => smL_end (fs := (List.range s.p).map s.f) (k := s.p) st
  rw [smA_cnt o] at ie
  have ia := smL_at (fs := (List.range s.p).map s.f) (k := s.p + 1) (j := L % s.p) (by omega)
  rw [smA_cnt o] at ia
  obtain ⟨gl, ge⟩ := List.getElem?_eq_some_iff.mp ia
  have ix : ∀ st, dIx (.lst (smL ((List.range s.p).map s.f) (s.p + 1))) (.int (L % s.p : Nat)) st = .ok (.int (cnt s.h (L % s.p))) st := fun st => by
    generalize smL ((List.range s.p).map s.f) (s.p + 1) = SM at *
    generalize L % s.p = R at *
    simp -implicitDefEqProofs [gl, ge]
  have c0 := cnt_0 s.h s.p
  have c1 := cnt_bd s.h s.p
  have ql : L / s.p < 2 ^ 3000 := Nat.lt_of_le_of_lt (Nat.div_le_self _ _) hL
  have mo : mulOk ((L / s.p : Nat) : Int) (cnt s.h s.p) := Bd.mulOk (n := 3000) (m := 60) (by unfold Bd; rw [Int.natAbs_natCast]; exact ql) (Bd.of (by omega) (by omega))
  obtain ⟨y', e⟩ := mny_loop o hP (L := L) (x2 := some (.int (L / s.p : Nat))) (x3 := some (.int (L % s.p : Nat))) st s.ss (((L / s.p : Nat) : Int) * cnt s.h s.p + cnt s.h (L % s.p)) none o.s1
  rw [← o.cnt] at e
  have zl : (intI s.ss).length ≤ 16777216 := by unfold intI; rw [List.length_map]; have := o.ln; omega
  unfold St.pl plainD at *
  generalize cnt s.g L = V at *
  generalize cnt s.h (L % s.p) = C1 at *
  generalize cnt s.h s.p = C2 at *
  generalize blsL ((List.range s.p).map s.f) = GS at *
  generalize smL ((List.range s.p).map s.f) (s.p + 1) = SM at *
  generalize intI s.ss = SS at *
  generalize ((L % s.p : Nat) : Int) = R at *
  generalize ((L / s.p : Nat) : Int) = Q at *
  generalize (s.p : Int) = PP at *
  generalize (L : Int) = LL at *
  simp -implicitDefEqProofs [-ev_dIx, F_Plainest_many, g_Plainest_many, pi, dp, em, ed, ie, ix, mo, zl, e]
end Law
/-! sets of distances: told by number -/
namespace Law
open PySem Sh
def oD : Option Nat → D
  | none => .non
  | some k => .int (k : Int)
/-- one more than the last changed distance, or 1 -/
def eI (ss : List Int) : Int := match ss.getLast? with
  | some x => x + 1
  | none => 1
theorem pend_ok (s : St) {Z : Nat} (hl : s.ss.length ≤ 1000000) (st : Sto) : F_Plainest_end [s.pl] st = .ok (.int (eI s.ss)) st := by
  have ok : eqOk (.tup (intI s.ss)) (.tup []) = true := eqOk_of (by have := py_ints s.ss; exact this) rfl (by simp [dep])
  have ne : dNe (.tup (intI s.ss)) (.tup []) st = .ok (.bl (decide (s.ss ≠ []))) st := by
    rw [dNe_ok ok rfl rfl]
    cases s.ss with
    | nil => rfl
    | cons a r => rfl
  unfold St.pl plainD
  generalize blsL ((List.range s.p).map s.f) = BL at *
  generalize smL ((List.range s.p).map s.f) (s.p + 1) = SM at *
  generalize s.ss = ss at *
  rcases List.eq_nil_or_concat ss with hc | ⟨r, x, hc⟩
  · subst hc
    have ne : dNe (.tup (intI [])) (.tup []) st = .ok (.bl false) st := ne
    have e : eI [] = 1 := rfl
    rw [e]
    generalize intI [] = SS at *
    simp -implicitDefEqProofs [F_Plainest_end, g_Plainest_end, ne]
  · subst hc
    rw [decide_eq_true (by simp)] at ne
    have e : eI (r ++ [x]) = x + 1 := by simp [eI]
    rw [List.concat_eq_append] at *
    rw [e]
    have e2 : intI (r ++ [x]) = intI r ++ [.int x] := by unfold intI; rw [List.map_append]; rfl
    have ix : dIx (.tup (intI (r ++ [x]))) (.int (-1)) st = .ok (.int x) st := by
      rw [e2]
      generalize intI r = A
      have h1 : (1 : Int) ≤ (A.length : Int) + 1 := by omega
      have h2 : ((-1 : Int) + ((A.length : Int) + 1)).toNat = A.length := by omega
      simp -implicitDefEqProofs [h1, h2]
    generalize intI (r ++ [x]) = SS at *
    simp -implicitDefEqProofs [-ev_dIx, F_Plainest_end, g_Plainest_end, ne, ix]
theorem mem_body {s : St} {P Z : Nat} (o : s.Ok P Z) (hP : P ≤ 1000000) (hZ : Z ≤ 1000000) {n : Int} {lo hi : Nat} (h : lo + hi < 2 ^ 3000) (y : Option D) (st : Sto) :
    b_Plainest_member_0 [some s.pl, some (.int n), some (.int hi), some (.int lo), y] st = (if cnt s.g ((lo + hi) / 2) < n then .nx [some s.pl, some (.int n), some (.int hi), some (.int ((lo + hi) / 2 : Nat)), some (.int ((lo + hi) / 2 : Nat))] st else .nx [some s.pl, some (.int n), some (.int ((lo + hi) / 2 : Nat)), some (.int lo), some (.int ((lo + hi) / 2 : Nat))] st) := by
  have mk := many_ok o hP hZ (L := (lo + hi) / 2) (by omega) st
  have ed : ((lo : Int) + (hi : Int)) / 2 = (((lo + hi) / 2 : Nat) : Int) := by omega
  have d2 : divOk 2 := by decide
  have pl : s.pl = .ins 1 [.int s.p, .lst (blsL ((List.range s.p).map s.f)), .tup (intI s.ss), .lst (smL ((List.range s.p).map s.f) (s.p + 1))] := rfl
  generalize cnt s.g ((lo + hi) / 2) = V at *
  generalize (((lo + hi) / 2 : Nat) : Int) = M at *
  rw [at_b_Plainest_member_0]
  rw [pl] at *
  generalize [D.int s.p, .lst (blsL ((List.range s.p).map s.f)), .tup (intI s.ss), .lst (smL ((List.range s.p).map s.f) (s.p + 1))] = IL at *
  generalize (lo : Int) = LO at *
  generalize (hi : Int) = HI at *
  by_cases c : V < n
  · simp -implicitDefEqProofs [ed, d2, mk, c]
  · simp -implicitDefEqProofs [ed, d2, mk, c]
theorem mem_loop {s : St} {P Z : Nat} (o : s.Ok P Z) (hP : P ≤ 1000000) (hZ : Z ≤ 1000000) {n : Int} (st : Sto) : ∀ (k lo hi more : Nat) (y : Option D), cnt s.g lo < n → n ≤ cnt s.g hi → hi ≤ lo + k + 1 → hi < 2 ^ 2999 →
    ∃ (j : Nat) (y' : Option D), whF (tOfE (fBin dGt (fBin dSub (fVar 2) (fVar 3)) (fC (.int 1)))) b_Plainest_member_0 (k + 1 + more) [some s.pl, some (.int n), some (.int hi), some (.int lo), y] st = .nx [some s.pl, some (.int n), some (.int (j + 1 : Nat)), some (.int j), y'] st ∧ cnt s.g j < n ∧ n ≤ cnt s.g (j + 1) ∧ j + 1 ≤ hi
  | k, lo, hi, more, y, h1, h2, h3, h4 => by
    have lh : lo < hi := Nat.lt_of_not_le fun z => by have := cnt_le s.g z; omega
    rw [show k + 1 + more = (k + more) + 1 by omega, wh_step]
    by_cases c : hi = lo + 1
    · subst c
      refine ⟨lo, y, ?_, h1, h2, Nat.le_refl _⟩
      have c : ¬ (1 : Int) < ((lo + 1 : Nat) : Int) - (lo : Int) := by omega
      generalize s.pl = PL at *
      generalize ((lo + 1 : Nat) : Int) = HI at *
      generalize (lo : Int) = LO at *
      simp -implicitDefEqProofs [c]
    · match k, h3 with
      | 0, h3 => omega
      | k + 1, h3 =>
        have c : (1 : Int) < (hi : Int) - (lo : Int) := by omega
        have b := mem_body o hP hZ (n := n) (lo := lo) (hi := hi) (by omega) y st
        rw [show k + 1 + more = k + 1 + more from rfl]
        by_cases d : cnt s.g ((lo + hi) / 2) < n
        · obtain ⟨j, y', e, r1, r2, r3⟩ := mem_loop o hP hZ st k ((lo + hi) / 2) hi more (some (.int ((lo + hi) / 2 : Nat))) d h2 (by omega) h4
          refine ⟨j, y', ?_, r1, r2, by omega⟩
          rw [if_pos d] at b
          generalize hw : whF (tOfE (fBin dGt (fBin dSub (fVar 2) (fVar 3)) (fC (.int 1)))) b_Plainest_member_0 (k + 1 + more) = WH at *
          generalize s.pl = PL at *
          generalize ((j + 1 : Nat) : Int) = J1 at *
          generalize (((lo + hi) / 2 : Nat) : Int) = M at *
          generalize (hi : Int) = HI at *
          generalize (lo : Int) = LO at *
          generalize b_Plainest_member_0 = BB at *
          simp -implicitDefEqProofs [c, b, e]
        · obtain ⟨j, y', e, r1, r2, r3⟩ := mem_loop o hP hZ st k lo ((lo + hi) / 2) more (some (.int ((lo + hi) / 2 : Nat))) h1 (by omega) (by omega) (by omega)
          refine ⟨j, y', ?_, r1, r2, by omega⟩
          rw [if_neg d] at b
          generalize hw : whF (tOfE (fBin dGt (fBin dSub (fVar 2) (fVar 3)) (fC (.int 1)))) b_Plainest_member_0 (k + 1 + more) = WH at *
          generalize s.pl = PL at *
          generalize ((j + 1 : Nat) : Int) = J1 at *
          generalize (((lo + hi) / 2 : Nat) : Int) = M at *
          generalize (hi : Int) = HI at *
          generalize (lo : Int) = LO at *
          generalize b_Plainest_member_0 = BB at *
          simp -implicitDefEqProofs [c, b, e]
theorem mem_gen {PL : List D} {n HI EE PP C2 V : Int} {r : D} {st : Sto} {sg : Sg} (pe : F_Plainest_end [.ins 1 PL] st = .ok (.int EE) st) (p0 : fFld 1 0 (fVar 0) [some (.ins 1 PL), some (.int n), none, none, none] st = .ok (.int PP) st) (p3 : fBin dIx (fFld 1 3 (fVar 0)) (fUn dNeg (fC (.int 1))) [some (.ins 1 PL), some (.int n), none, none, none] st = .ok (.int C2) st) (mo : mulOk PP n) (hh : HI = EE + (if 0 < C2 then PP * n else 0))
    (mk : F_Plainest_many [.ins 1 PL, .int HI] st = .ok (.int V) st) (hw : V < n → r = .non) (hw2 : ¬ V < n → sWhile fuel (tOfE (fBin dGt (fBin dSub (fVar 2) (fVar 3)) (fC (.int 1)))) b_Plainest_member_0 [some (.ins 1 PL), some (.int n), some (.int HI), some (.int 0), none] st = .nx sg st ∧ sg[2]? = some (some r)) :
    F_Plainest_member [.ins 1 PL, .int n] st = .ok r st := by
  simp only [F_Plainest_member, g_Plainest_member]
  generalize sWhile fuel (tOfE (fBin dGt (fBin dSub (fVar 2) (fVar 3)) (fC (.int 1)))) b_Plainest_member_0 = W at *
  generalize fFld 1 0 (fVar 0) = E0 at *
  generalize fBin dIx (fFld 1 3 (fVar 0)) (fUn dNeg (fC (.int 1))) = E3 at *
  subst hh
  by_cases c : 0 < C2
  · rw [if_pos c] at *
    by_cases d : V < n
    · rw [hw d]
      simp -implicitDefEqProofs [pe, p0, p3, mo, c, mk, d]
    · obtain ⟨a, b⟩ := hw2 d
      simp -implicitDefEqProofs [pe, p0, p3, mo, c, mk, d, a, b]
  · rw [if_neg c] at *
    rw [Int.add_zero] at *
    by_cases d : V < n
    · rw [hw d]
      simp -implicitDefEqProofs [pe, p0, p3, mo, c, mk, d]
    · obtain ⟨a, b⟩ := hw2 d
      simp -implicitDefEqProofs [pe, p0, p3, mo, c, mk, d, a, b]
theorem St.Ok.eI {s : St} {P Z : Nat} (o : s.Ok P Z) : ∃ e : Nat, Law.eI s.ss = (e : Int) ∧ (∀ d ∈ s.ss, d < (e : Int)) ∧ e ≤ 2 ^ 220 := by
  have h := end_gt o.asc
  have a : 1 ≤ Law.eI s.ss ∧ Law.eI s.ss ≤ 2 ^ 220 := by
    unfold Law.eI
    cases c : s.ss.getLast? with
    | none => simp
    | some x =>
      have := List.mem_of_getLast? c
      have b1 := o.s1 x this
      have b2 := o.bd x this
      simp only
      omega
  obtain ⟨e, he⟩ := Int.eq_ofNat_of_zero_le (show 0 ≤ Law.eI s.ss by omega)
  refine ⟨e, he, fun d hd => ?_, by omega⟩
  rw [← he]
  exact h d hd
theorem member_ok {s : St} {P Z : Nat} (o : s.Ok P Z) (hP : P ≤ 1000000) (hZ : Z ≤ 1000000) {n : Nat} (n1 : 1 ≤ n) (hn : n < 2 ^ 1000) (st : Sto) : ∃ x : Option Nat, Mem s.g n x ∧ (∀ k, x = some k → k < 2 ^ 2999) ∧ F_Plainest_member [s.pl, .int n] st = .ok (oD x) st := by
  obtain ⟨e, ee, eh, eb⟩ := o.eI
  have p1 := o.p1
  have p2 := o.pl
  have pe := pend_ok s (Z := Z) (by have := o.ln; omega) st
  rw [ee] at pe
  have pn : s.p * n ≤ 1000000 * 2 ^ 1000 := Nat.mul_le_mul (by omega) (by omega)
  have hb : e + (if 0 < cnt s.h s.p then s.p * n else 0) < 2 ^ 2999 := by
    split <;> omega
  have mk := many_ok o hP hZ (L := e + (if 0 < cnt s.h s.p then s.p * n else 0)) (by omega) st
  have hh : ((e + (if 0 < cnt s.h s.p then s.p * n else 0) : Nat) : Int) = (e : Int) + (if 0 < cnt s.h s.p then (s.p : Int) * n else 0) := by
    split <;> simp
  have mo : mulOk (s.p : Int) (n : Int) := Bd.mulOk (n := 60) (m := 1000) (Bd.of (by omega) (by omega)) (by unfold Bd; rw [Int.natAbs_natCast]; exact hn)
  have ie := smL_end (fs := (List.range s.p).map s.f) (k := s.p) st
  rw [smA_cnt o] at ie
  have p3 : fBin dIx (fFld 1 3 (fVar 0)) (fUn dNeg (fC (.int 1))) [some s.pl, some (.int n), none, none, none] st = .ok (.int (cnt s.h s.p)) st := by
    unfold St.pl plainD
    generalize smL ((List.range s.p).map s.f) (s.p + 1) = SM at *
    simp -implicitDefEqProofs [-ev_dIx, ie]
  have p0 : fFld 1 0 (fVar 0) [some s.pl, some (.int n), none, none, none] st = .ok (.int s.p) st := by
    unfold St.pl plainD
    simp -implicitDefEqProofs
  by_cases c : cnt s.g (e + (if 0 < cnt s.h s.p then s.p * n else 0)) < n
  · exact ⟨none, .no fun k => o.high eh c k, (fun _ z => by cases z), mem_gen (sg := []) pe p0 p3 mo hh mk (fun _ => rfl) fun z => absurd c z⟩
  · obtain ⟨more, hm⟩ := fuel_eq (m := e + (if 0 < cnt s.h s.p then s.p * n else 0) + 1) (Nat.le_trans (Nat.le_of_lt_succ (show _ < 2 ^ 2999 + 1 + 1 by omega)) (by decide))
    obtain ⟨j, y', w, j1, j2, j3⟩ := mem_loop o hP hZ (n := n) st (e + (if 0 < cnt s.h s.p then s.p * n else 0)) 0 (e + (if 0 < cnt s.h s.p then s.p * n else 0)) more none (by show (0 : Int) < n; omega) (by omega) (by omega) hb
    rw [← hm] at w
    exact ⟨some (j + 1), .hit j1 j2, (fun k z => by
      have : k = j + 1 := (Option.some.inj z).symm
      rw [this]
      exact Nat.lt_of_le_of_lt j3 hb), mem_gen pe p0 p3 mo hh mk (fun z => absurd z c) fun _ => ⟨w, rfl⟩⟩
end Law
/-! sets of distances: count and nth -/
namespace Law
open PySem Sh
theorem count_ok {s : St} {P Z : Nat} (o : s.Ok P Z) (hP : P ≤ 1000000) (hZ : Z ≤ 1000000) {L : Nat} (hL : L < 2 ^ 3000) (st : Sto) : F_Distances_count [s.d, .int L] st = .ok (.int (cnt s.g L)) st := by
  have w := fun st => whole_int L st
  have mk := many_ok o hP hZ hL st
  have c : ¬ (L : Int) < 0 := by omega
  have pl : s.pl = .ins 1 [.int s.p, .lst (blsL ((List.range s.p).map s.f)), .tup (intI s.ss), .lst (smL ((List.range s.p).map s.f) (s.p + 1))] := rfl
  rw [s.d_eq]
  rw [pl] at mk ⊢
  generalize [D.int s.p, .lst (blsL ((List.range s.p).map s.f)), .tup (intI s.ss), .lst (smL ((List.range s.p).map s.f) (s.p + 1))] = IL at *
  generalize (L : Int) = LL at *
  simp -implicitDefEqProofs [F_Distances_count, g_Distances_count, w, c, mk]
theorem nth_ok {s : St} {P Z : Nat} (o : s.Ok P Z) (hP : P ≤ 1000000) (hZ : Z ≤ 1000000) {n : Nat} (n1 : 1 ≤ n) (hn : n < 2 ^ 1000) (st : Sto) : ∃ x : Option Nat, Mem s.g n x ∧ (∀ k, x = some k → k < 2 ^ 2999) ∧ F_Distances_nth [s.d, .int n] st = .ok (oD x) st := by
  obtain ⟨x, hx, hb, mk⟩ := member_ok o hP hZ n1 hn st
  refine ⟨x, hx, hb, ?_⟩
  have w := fun st => whole_int n st
  have c : ¬ (n : Int) < 1 := by omega
  have pl : s.pl = .ins 1 [.int s.p, .lst (blsL ((List.range s.p).map s.f)), .tup (intI s.ss), .lst (smL ((List.range s.p).map s.f) (s.p + 1))] := rfl
  rw [s.d_eq]
  rw [pl] at mk ⊢
  generalize [D.int s.p, .lst (blsL ((List.range s.p).map s.f)), .tup (intI s.ss), .lst (smL ((List.range s.p).map s.f) (s.p + 1))] = IL at *
  generalize (n : Int) = LL at *
  simp -implicitDefEqProofs [F_Distances_nth, g_Distances_nth, w, c, mk]
end Law
/-! sets of distances: the law's own count -/
namespace Law
open PySem Sh
def hOf (m : Nat) (cs : List Int) (k : Int) : Bool := decide (k % (m : Int) ∈ cs)
theorem due_gof (m : Nat) (cs ch : List Int) : due m cs ch = gof (hOf m cs) ch := rfl
theorem hOf_rnd (m : Nat) (cs : List Int) : Rnd (hOf m cs) m := fun i => by
  unfold hOf
  have : ((m + i : Nat) : Int) % (m : Int) = (i : Int) % (m : Int) := by rw [Int.natCast_add, Int.add_emod_left]
  rw [this]
theorem flt_one {q q' : Int → Bool} {a : Int} (qa : q a = false) : ∀ {cs : List Int}, cs.Nodup → (∀ k ∈ cs, q' k = (q k || decide (k = a))) → ((cs.filter q').length : Int) = (cs.filter q).length + b2n (decide (a ∈ cs))
  | [], _, _ => rfl
  | c :: r, hn, h => by
    obtain ⟨h1, h2⟩ := List.nodup_cons.mp hn
    have ih := flt_one qa h2 fun k hk => h k (List.mem_cons_of_mem _ hk)
    have hc := h c List.mem_cons_self
    by_cases e : c = a
    · subst e
      rw [qa, decide_eq_true rfl, Bool.or_true] at hc
      rw [List.filter_cons_of_pos hc, List.filter_cons_of_neg (by rw [qa]; decide), decide_eq_true List.mem_cons_self, List.length_cons]
      rw [decide_eq_false h1] at ih
      have b0 : b2n false = 0 := rfl
      have b1 : b2n true = 1 := rfl
      rw [b0] at ih
      rw [b1]
      omega
    · rw [decide_eq_false e, Bool.or_false] at hc
      have m : decide (a ∈ c :: r) = decide (a ∈ r) := decide_eq_decide.mpr ⟨fun z => (List.mem_cons.mp z).elim (fun y => absurd y.symm e) id, List.mem_cons_of_mem _⟩
      rw [m]
      cases d : q c with
      | true =>
        rw [List.filter_cons_of_pos (by rw [hc, d]), List.filter_cons_of_pos d, List.length_cons, List.length_cons]
        omega
      | false =>
        rw [List.filter_cons_of_neg (by rw [hc, d]; decide), List.filter_cons_of_neg (by rw [d]; decide)]
        exact ih
def upto (r : Nat) (k : Int) : Bool := decide (1 ≤ k) && decide (k ≤ (r : Int))
theorem cls_cnt {m : Nat} {cs : List Int} (cn : cs.Nodup) : ∀ r : Nat, r < m → cnt (hOf m cs) r = ((cs.filter (upto r)).length : Int)
  | 0, _ => by
    have : cs.filter (upto 0) = [] := List.filter_eq_nil_iff.mpr fun k _ => by
      unfold upto
      simp
      omega
    rw [this]
    rfl
  | r + 1, h => by
    have ih := cls_cnt (m := m) cn r (by omega)
    have f := flt_one (q := upto r) (q' := upto (r + 1)) (a := ((r + 1 : Nat) : Int)) (by unfold upto; rw [decide_eq_false (show ¬ ((r + 1 : Nat) : Int) ≤ (r : Int) by omega), Bool.and_false]) cn fun k _ => by
      unfold upto
      by_cases c : k = ((r + 1 : Nat) : Int)
      · subst c
        have q1 : (1 : Int) ≤ (r : Int) + 1 := by omega
        simp [q1]
      · have : k ≤ ((r + 1 : Nat) : Int) ↔ k ≤ (r : Int) := by omega
        rw [decide_eq_decide.mpr this, decide_eq_false c, Bool.or_false]
    show cnt (hOf m cs) r + b2n (hOf m cs ((r + 1 : Nat) : Int)) = _
    rw [f, ih]
    unfold hOf
    rw [Int.emod_eq_of_lt (by omega) (by omega)]
theorem cls_all {m : Nat} {cs : List Int} (m1 : 1 ≤ m) (cn : cs.Nodup) (cr : ∀ c ∈ cs, 0 ≤ c ∧ c < m) : cnt (hOf m cs) m = (cs.length : Int) := by
  obtain ⟨n, rfl⟩ : ∃ n, m = n + 1 := ⟨m - 1, by omega⟩
  have a := cls_cnt (m := n + 1) cn n (by omega)
  have f := flt_one (q := upto n) (q' := fun _ => true) (a := 0) (by unfold upto; simp) cn fun k hk => by
    obtain ⟨c1, c2⟩ := cr k hk
    unfold upto
    by_cases c : k = 0
    · subst c
      simp
    · rw [decide_eq_true (show 1 ≤ k by omega), decide_eq_true (show k ≤ (n : Int) by omega)]
      rfl
  have e : cs.filter (fun _ => true) = cs := List.filter_eq_self.mpr (by simp)
  rw [e] at f
  show cnt (hOf (n + 1) cs) n + b2n (hOf (n + 1) cs ((n + 1 : Nat) : Int)) = _
  rw [f, a]
  unfold hOf
  rw [Int.emod_self]
theorem lmny_loop {m : Nat} {cs ch : List Int} (m1 : 1 ≤ m) (m2 : m ≤ 1000000) {L : Int} {x2 x3 x5 : Option D} (st : Sto) : ∀ (l : List Int) (v : Int) (y : Option D), ∃ y', forF (fun _ => True) (.one 6) b_law_many_2 (intI l) [some (rowT m cs ch), some (.int L), x2, x3, some (.int v), x5, y] st = .nx [some (rowT m cs ch), some (.int L), x2, x3, some (.int (v + flp (hOf m cs) l L)), x5, y'] st
  | [], v, y => ⟨y, by simp [intI, forF, flp]⟩
  | d :: r, v, y => by
    obtain ⟨y', e⟩ := lmny_loop m1 m2 (L := L) (x2 := x2) (x3 := x3) (x5 := x5) st r (v + (if d ≤ L then (if hOf m cs d = true then -1 else 1) else 0)) (some (.int d))
    refine ⟨y', ?_⟩
    have bb : b_law_many_2 [some (rowT m cs ch), some (.int L), x2, x3, some (.int v), x5, some (.int d)] st = .nx [some (rowT m cs ch), some (.int L), x2, x3, some (.int (v + (if d ≤ L then (if hOf m cs d = true then -1 else 1) else 0))), x5, some (.int d)] st := by
      have mp : (0 : Int) < (m : Int) := by omega
      have it := in_tup cs (d % (m : Int)) true st
      simp only [if_true] at it
      unfold hOf
      rw [at_b_law_many_2]
      unfold rowT
      generalize intI cs = CS at *
      generalize intI ch = CH at *
      generalize (m : Int) = M at *
      by_cases c : d ≤ L
      · by_cases z : d % M ∈ cs
        · rw [decide_eq_true z] at it
          simp -implicitDefEqProofs [c, mp, it, z]
        · rw [decide_eq_false z] at it
          simp -implicitDefEqProofs [c, mp, it, z]
      · simp -implicitDefEqProofs [c]
    rw [show intI (d :: r) = .int d :: intI r from rfl, for_cons trivial (show setT (.one 6) (.int d) [some (rowT m cs ch), some (.int L), x2, x3, some (.int v), x5, y] = some [some (rowT m cs ch), some (.int L), x2, x3, some (.int v), x5, some (.int d)] from rfl), bb]
    show forF _ _ _ _ _ _ = _
    rw [e, Int.add_assoc]
    rfl
theorem lmany_ok {m : Nat} {cs ch : List Int} (h : Row m cs ch) {L : Nat} (hL : L < 2 ^ 3000) (st : Sto) : F_law_many [rowT m cs ch, .int L] st = .ok (.int (cnt (due m cs ch) L)) st := by
  have m1 := h.m1
  have m2 := h.m2
  have mp : (0 : Int) < (m : Int) := by omega
  have dp : divOk (m : Int) := Bd.divOk (n := 60) (Bd.of (by omega) (by omega)) (by decide)
  have em : ((L : Int) % (m : Int)) = ((L % m : Nat) : Int) := (Int.natCast_emod L m).symm
  have ed : ((L : Int) / (m : Int)) = ((L / m : Nat) : Int) := (Int.natCast_ediv L m).symm
  have lt : L % m < m := Nat.mod_lt _ m1
  have ql : L / m < 2 ^ 3000 := Nat.lt_of_le_of_lt (Nat.div_le_self _ _) hL
  have cl := h.cl
  have mo : mulOk ((L / m : Nat) : Int) (cs.length : Int) := Bd.mulOk (n := 3000) (m := 60) (by unfold Bd; rw [Int.natAbs_natCast]; exact ql) (Bd.of (by omega) (by omega))
  obtain ⟨y', e⟩ := lmny_loop (cs := cs) (ch := ch) m1 (by omega) (L := L) (x2 := some (.int (L / m : Nat))) (x3 := some (.int (L % m : Nat))) (x5 := none) st ch (((L / m : Nat) : Int) * cs.length + (cs.filter (upto (L % m))).length) none
  have val : ((L / m : Nat) : Int) * cs.length + (cs.filter (upto (L % m))).length + flp (hOf m cs) ch L = cnt (due m cs ch) L := by
    rw [due_gof, cnt_gof h.hn (fun d hd => (h.hr d hd).1), cnt_div (hOf_rnd m cs), cls_all m1 h.cn h.cr, cls_cnt h.cn _ lt]
  rw [val] at e
  have lc : lcF (fun _ => True) (.one 5) b_law_many_1 b_law_many_0 [some (rowT m cs ch), some (.int L), some (.int (L / m : Nat)), some (.int (L % m : Nat)), none, none, none] (intI cs) st = .ok (intI (cs.filter (upto (L % m)))) st := lc_ints (upto (L % m)) (by simp) (fun k hk => by
    rw [at_b_law_many_1]
    unfold upto
    by_cases c1 : 1 ≤ k <;> by_cases c2 : k ≤ ((L % m : Nat) : Int) <;> simp -implicitDefEqProofs [fChn, c1, c2]) fun k hk => by rw [at_b_law_many_0]; rfl
  have zc : cs.length ≤ 16777216 := by omega
  have zf : (cs.filter (upto (L % m))).length ≤ 16777216 := by
    have := List.length_filter_le (upto (L % m)) cs
    omega
  have zh : (intI ch).length ≤ 16777216 := by unfold intI; rw [List.length_map]; have := h.hl; omega
  have l1 : (intI cs).length = cs.length := List.length_map _
  have l2 : (intI (cs.filter (upto (L % m)))).length = (cs.filter (upto (L % m))).length := List.length_map _
  have t1 : (cs.length : Int) < 9223372036854775808 := by omega
  have t2 : ((cs.filter (upto (L % m))).length : Int) < 9223372036854775808 := by
    have := List.length_filter_le (upto (L % m)) cs
    omega
  unfold rowT at *
  generalize cnt (due m cs ch) L = V at *
  generalize ((cs.filter (upto (L % m))).length : Nat) = C1 at *
  generalize intI (cs.filter (upto (L % m))) = FL at *
  generalize cs.length = C2 at *
  generalize intI cs = CS at *
  generalize intI ch = CH at *
  generalize ((L % m : Nat) : Int) = R at *
  generalize ((L / m : Nat) : Int) = Q at *
  generalize (m : Int) = M at *
  generalize (L : Int) = LL at *
  simp -implicitDefEqProofs [F_law_many, g_law_many, mp, dp, em, ed, mo, lcR, wipeD, lc, zc, zf, zh, l1, l2, t1, t2, e]
end Law
/-! sets of distances: made, and turned about -/
namespace Law
open PySem Sh
def Rw.g (r : Rw) : Int → Bool := due r.m r.cs r.ch
/-- a set of these parts -/
structure IsSt (x : D) (r : Rw) : Prop where
  ok : r.ok
  ex : ∃ s : St, s.Ok 720 1000 ∧ x = s.d ∧ (∀ i, s.f i = decide (((i % r.m : Nat) : Int) ∈ r.cs)) ∧ s.ss.length = r.ch.length ∧ ∀ k : Nat, 1 ≤ k → s.g (k : Int) = r.g k
theorem st_new {r : Rw} (h : r.ok) (st : Sto) (hp : PuS st) : ∃ x, IsSt x r ∧ mkF 2 F_Distances_init 4 [] [.int r.m, .tup (intI r.cs), .tup (intI r.ch)] st = .ok x st := by
  obtain ⟨p, hl, hd, e⟩ := set_can h st hp
  have m1 := h.m1
  have m2 := h.m2
  have pm := Nat.le_of_dvd (by omega) hd
  have pr := L2.srtI_perm r.ch
  refine ⟨St.d ⟨fOf r.m r.cs, p, L2.srtI r.ch⟩, ⟨h, ⟨fOf r.m r.cs, p, L2.srtI r.ch⟩, ⟨hl, by show p ≤ 720; omega, L2.srtI_asc h.hn, fun d hd => (h.hr d (pr.mem_iff.mp hd)).1, fun d hd => (h.hr d (pr.mem_iff.mp hd)).2, by show (L2.srtI r.ch).length ≤ 1000; rw [pr.length_eq]; exact h.hl⟩, rfl, fun i => rfl, pr.length_eq, fun k hk => ?_⟩, e⟩
  show ((fOf r.m r.cs (k : Int).toNat) != decide ((k : Int) ∈ L2.srtI r.ch)) = (decide ((k : Int) % (r.m : Int) ∈ r.cs) != decide ((k : Int) ∈ r.ch))
  rw [decide_eq_decide.mpr pr.mem_iff, Int.toNat_natCast]
  rfl
theorem set_row {r : Rw} (h : r.ok) (st : Sto) (hp : PuS st) : ∃ x, IsSt x r ∧ F_law_set [r.d] st = .ok x st := by
  obtain ⟨x, hx, e⟩ := st_new h st hp
  refine ⟨x, hx, ?_⟩
  unfold Rw.d rowT
  generalize intI r.ch = CH at *
  generalize intI r.cs = CS at *
  generalize (r.m : Int) = M at *
  simp -implicitDefEqProofs [F_law_set, g_law_set, e]
/-- all others -/
def Rw.neg (r : Rw) : Rw := ⟨r.m, (rngI r.m).filter fun k => !(decide (k ∈ r.cs)), r.ch⟩
theorem Rw.neg_mem {r : Rw} {k : Int} : k ∈ r.neg.cs ↔ (0 ≤ k ∧ k < r.m) ∧ k ∉ r.cs := by
  show k ∈ (rngI r.m).filter _ ↔ _
  rw [List.mem_filter]
  have : k ∈ rngI r.m ↔ 0 ≤ k ∧ k < r.m := by
    unfold rngI
    rw [List.mem_map]
    constructor
    · rintro ⟨i, hi, rfl⟩
      have := List.mem_range.mp hi
      omega
    · intro ⟨a, b⟩
      exact ⟨k.toNat, List.mem_range.mpr (by omega), by omega⟩
  rw [this]
  simp
theorem Rw.neg_ok {r : Rw} (h : r.ok) : r.neg.ok := ⟨h.m1, h.m2, (rngI_nodup r.m).filter _, fun c hc => (Rw.neg_mem.mp hc).1, by
  show ((rngI r.m).filter _).length ≤ 1000
  have := List.length_filter_le (fun k => !(decide (k ∈ r.cs))) (rngI r.m)
  rw [rngI_len] at this
  have := h.m2
  omega, h.hn, h.hr, h.hl⟩
theorem neg_fun {s : St} {P Z : Nat} (o : s.Ok P Z) (hP : P ≤ 1000000) (st : Sto) (hp : PuS st) : ∃ t : St, t.Ok P Z ∧ (∀ i, t.f i = !(s.f i)) ∧ t.ss = s.ss ∧ F_Distances_invert [s.d] st = .ok t.d st := by
  have p1 := o.p1
  have p2 := o.pl
  have ip : IsP (fun i => !(s.f i)) s.p := fun i => by
    show (!(s.f (i + s.p))) = !(s.f i)
    rw [o.lst.go i]
  have ln : ((List.range s.p).map fun i => !(s.f i)).length = s.p := by simp
  have hp0 := hp.append (show PuS [SO.ins 2 []] from rfl)
  obtain ⟨p, pp, e⟩ := plain_ok (fs := (List.range s.p).map fun i => !(s.f i)) (ss := s.ss) (by omega) (by omega) st hp
  obtain ⟨l, dv⟩ := lst_of p1 ip pp
  have pm := Nat.le_of_dvd p1 dv
  rw [take_fun pm] at e
  refine ⟨⟨fun i => !(s.f i), p, s.ss⟩, ⟨l, by show p ≤ P; omega, o.asc, o.s1, o.bd, o.ln⟩, fun i => rfl, rfl, ?_⟩
  have lc : lcF (fun _ => True) (.one 1) tYesD b_Distances_invert_0 [some s.d, none] (blsL ((List.range s.p).map s.f)) st = .ok (blsL ((List.range s.p).map fun i => !(s.f i))) st := by
    have := lc_map (ck := fun _ => True) (t := .one 1) (c := tYesD) (f := b_Distances_invert_0) (sg := [some s.d, none]) (st := st) (fun d => match d with
      | .bl b => .bl (!b)
      | _ => .non) trivial (blsL ((List.range s.p).map s.f)) fun d hd => by
      unfold blsL at hd
      obtain ⟨b, hb, rfl⟩ := List.mem_map.mp hd
      refine ⟨_, rfl, rfl, ?_⟩
      rw [at_b_Distances_invert_0]
      simp -implicitDefEqProofs
    rw [this]
    congr 1
    unfold blsL
    rw [List.map_map, List.map_map, List.map_map]
    rfl
  have zl : (blsL ((List.range s.p).map s.f)).length ≤ 16777216 := by
    unfold blsL
    rw [List.length_map, List.length_map, List.length_range]
    omega
  have zn : (blsL ((List.range s.p).map fun i => !(s.f i))).length ≤ 16777216 := by
    unfold blsL
    rw [List.length_map, List.length_map, List.length_range]
    omega
  have pu0 := plainD_pu p ((List.range p).map fun i => !(s.f i)) s.ss
  have k : mkF 2 F_Distances_init 4 [.tup [], .tup []] [plainD p ((List.range p).map fun i => !(s.f i)) s.ss] st = .ok (St.d ⟨fun i => !(s.f i), p, s.ss⟩) st := by
    show _ = Res.ok (D.ins 2 [plainD p ((List.range p).map fun i => !(s.f i)) s.ss]) st
    have ii : ∀ st, bIsi (tbl tOwn) ((1, true) :: []) (plainD p ((List.range p).map fun i => !(s.f i)) s.ss) st = .ok (.bl true) st := fun st => rfl
    generalize plainD p ((List.range p).map fun i => !(s.f i)) s.ss = PL at *
    simp -implicitDefEqProofs [mkF, mkG, F_Distances_init, g_Distances_init, ii, pu0]
  rw [s.d_eq] at lc ⊢
  unfold St.pl plainD at lc ⊢
  generalize St.d ⟨fun i => !(s.f i), p, s.ss⟩ = T at *
  generalize plainD p ((List.range p).map fun i => !(s.f i)) s.ss = PL at *
  generalize blsL ((List.range s.p).map fun i => !(s.f i)) = NB at *
  generalize blsL ((List.range s.p).map s.f) = GS at *
  generalize smL ((List.range s.p).map s.f) (s.p + 1) = SM at *
  generalize intI s.ss = SS at *
  simp -implicitDefEqProofs [F_Distances_invert, g_Distances_invert, lcR, lc, zl, zn, e, k]
theorem IsSt.neg {x : D} {r : Rw} (h : IsSt x r) (st : Sto) (hp : PuS st) : ∃ y, IsSt y r.neg ∧ F_Distances_invert [x] st = .ok y st := by
  obtain ⟨ho, s, o, rfl, hf, hl, hg⟩ := h
  obtain ⟨t, ot, tf, tss, e⟩ := neg_fun o (by decide) st hp
  have m1 := ho.m1
  have key : ∀ i : Nat, decide (((i % r.m : Nat) : Int) ∈ r.neg.cs) = !(decide (((i % r.m : Nat) : Int) ∈ r.cs)) := fun i => by
    have lt : i % r.m < r.m := Nat.mod_lt _ (by omega)
    have : ((i % r.m : Nat) : Int) ∈ r.neg.cs ↔ ¬ ((i % r.m : Nat) : Int) ∈ r.cs := by
      rw [Rw.neg_mem]
      exact ⟨fun z => z.2, fun z => ⟨⟨by omega, by omega⟩, z⟩⟩
    by_cases c : ((i % r.m : Nat) : Int) ∈ r.cs
    · rw [decide_eq_true c, decide_eq_false fun z => this.mp z c]
      rfl
    · rw [decide_eq_false c, decide_eq_true (this.mpr c)]
      rfl
  refine ⟨t.d, ⟨Rw.neg_ok ho, t, ot, rfl, fun i => ?_, by rw [tss]; exact hl, fun k hk => ?_⟩, e⟩
  · rw [tf, hf]
    exact (key i).symm
  · have a : s.g k = due r.m r.cs r.ch k := hg k hk
    show t.g k = due r.neg.m r.neg.cs r.neg.ch k
    have em : ((k : Int) % (r.m : Int)) = ((k % r.m : Nat) : Int) := (Int.natCast_emod k r.m).symm
    have d1 : due r.m r.cs r.ch k = (decide (((k % r.m : Nat) : Int) ∈ r.cs) != decide ((k : Int) ∈ r.ch)) := by unfold due; rw [em]
    have d2 : due r.neg.m r.neg.cs r.neg.ch k = (decide (((k % r.m : Nat) : Int) ∈ r.neg.cs) != decide ((k : Int) ∈ r.ch)) := by
      show (decide ((k : Int) % (r.m : Int) ∈ r.neg.cs) != _) = _
      rw [em]
      rfl
    rw [d2, key]
    rw [d1] at a
    have tg : t.g k = ((!(s.f k)) != decide ((k : Int) ∈ s.ss)) := by
      show (t.h k != decide ((k : Int) ∈ t.ss)) = _
      rw [t.h_nat, tf, tss]
    have sg : s.g k = (s.f k != decide ((k : Int) ∈ s.ss)) := by
      show (s.h k != decide ((k : Int) ∈ s.ss)) = _
      rw [s.h_nat]
    rw [tg]
    rw [sg] at a
    revert a
    generalize s.f k = A
    generalize decide ((k : Int) ∈ s.ss) = B
    generalize decide (((k % r.m : Nat) : Int) ∈ r.cs) = C
    generalize decide ((k : Int) ∈ r.ch) = E
    cases A <;> cases B <;> cases C <;> cases E <;> decide
end Law
/-! k07: counted, told by number -/
namespace Law
open PySem Sh
theorem IsSt.count {x : D} {r : Rw} (h : IsSt x r) {L : Nat} (hL : L < 2 ^ 3000) (st : Sto) : F_Distances_count [x, .int L] st = .ok (.int (cnt r.g L)) st := by
  obtain ⟨ho, s, o, rfl, hf, hl, hg⟩ := h
  rw [count_ok o (by decide) (by decide) hL, cnt_cg hg L]
theorem Mem.cg {g h : Int → Bool} (e : ∀ k : Nat, 1 ≤ k → g (k : Int) = h (k : Int)) {n : Int} {x : Option Nat} (m : Mem g n x) : Mem h n x := by
  cases m with
  | no m => exact .no fun k => by rw [← cnt_cg e k]; exact m k
  | hit m1 m2 => exact .hit (by rw [← cnt_cg e]; exact m1) (by rw [← cnt_cg e]; exact m2)
theorem IsSt.nth {x : D} {r : Rw} (h : IsSt x r) {n : Nat} (n1 : 1 ≤ n) (hn : n < 2 ^ 1000) (st : Sto) : ∃ y : Option Nat, Mem r.g n y ∧ (∀ k, y = some k → k < 2 ^ 2999) ∧ F_Distances_nth [x, .int n] st = .ok (oD y) st := by
  obtain ⟨ho, s, o, rfl, hf, hl, hg⟩ := h
  obtain ⟨y, hy, hb, e⟩ := nth_ok o (by decide) (by decide) n1 hn st
  exact ⟨y, hy.cg hg, hb, e⟩
theorem IsSt.fin {x : D} {r : Rw} (h : IsSt x r) (hc : r.cs = []) : (∀ k : Nat, cnt r.g k ≤ r.ch.length) ∧ ∃ e : Nat, cnt r.g e = r.ch.length := by
  obtain ⟨ho, s, o, rfl, hf, hl, hg⟩ := h
  obtain ⟨a, e, b⟩ := o.fin fun i => by
    rw [hf, hc]
    rfl
  exact ⟨fun k => by rw [← cnt_cg hg k, ← hl]; exact a k, e, by rw [← cnt_cg hg e, ← hl]; exact b⟩
theorem IsSt.inf {x : D} {r : Rw} (h : IsSt x r) (hc : r.cs ≠ []) (n : Nat) : ∃ k : Nat, (n : Int) ≤ cnt r.g k := by
  obtain ⟨ho, s, o, rfl, hf, hl, hg⟩ := h
  obtain ⟨c, hm⟩ := List.exists_mem_of_ne_nil _ hc
  obtain ⟨c0, c1⟩ := ho.cr c hm
  have m1 := ho.m1
  obtain ⟨i, rfl⟩ := Int.eq_ofNat_of_zero_le c0
  obtain ⟨_, k⟩ := o.inf (i := i) (by
    rw [hf, Nat.mod_eq_of_lt (by omega)]
    exact decide_eq_true hm)
  obtain ⟨k, hk⟩ := k n
  exact ⟨k, by rw [← cnt_cg hg k]; exact hk⟩
theorem int_same (v : Int) (st : Sto) : F_law_same [.int v, .int v] st = .ok (.bl true) st := same_ok (k := 0) (.int v) (by decide) st
theorem cnt_lap {x : D} {r : Rw} (h : IsSt x r) {A : D} {i : Nat} (hi : i < 60) {y : Option D} (st : Sto) :
    b_law_counted_0 [some x, some r.d, some A, some (.int (cnt r.g (i - 1))), some (.int i)] st = .nx [some x, some r.d, some A, some (.int (cnt r.g i)), some (.int i)] st := by
  have m1 := h.ok.m1
  have m2 := h.ok.m2
  have c := h.count (L := i) (Nat.lt_trans hi (by decide)) st
  have s := fun V => int_same V st
  have q : F_law_is_in [r.d, .int i] st = .ok (.bl (r.g i)) st := law_in_ok (cs := r.cs) (ch := r.ch) m1 (by omega) i st
  obtain ⟨_, t, _, hx, _⟩ := h
  rw [t.d_eq] at hx
  subst hx
  rw [at_b_law_counted_0]
  match i with
  | 0 =>
    have z : cnt r.g (0 - 1) = 0 := rfl
    have z0 : cnt r.g 0 = 0 := rfl
    rw [z, z0] at *
    generalize r.d = RD at *
    generalize t.pl = PL at *
    have c' : F_Distances_count [.ins 2 [PL], .int 0] st = .ok (.int 0) st := c
    simp -implicitDefEqProofs [c', s]
  | i + 1 =>
    have z : cnt r.g (i + 1) = cnt r.g (i + 1 - 1) + b2n (r.g ((i + 1 : Nat) : Int)) := rfl
    have p : (0 : Int) < ((i + 1 : Nat) : Int) := by omega
    generalize cnt r.g (i + 1 - 1) = V at *
    generalize r.d = RD at *
    generalize t.pl = PL at *
    rw [z] at *
    generalize r.g ((i + 1 : Nat) : Int) = B at *
    generalize ((i + 1 : Nat) : Int) = I at *
    unfold b2n at *
    cases B
    · simp only [Bool.false_eq_true, if_false, Int.add_zero] at *
      simp -implicitDefEqProofs [p, q, c, s]
    · simp only [if_true] at *
      simp -implicitDefEqProofs [p, q, c, s]
theorem counted_ok {x : D} {r : Rw} (h : IsSt x r) {l : List Int} (hg : ∀ a ∈ l, 0 ≤ a ∧ a < 2 ^ 2000) (hl : l.length ≤ 100000) (st : Sto) : F_law_counted [x, r.d, .lst (intI l)] st = .ok (.bl true) st := by
  obtain ⟨sg', st', e1, y4, hsg, hst⟩ := for_toN (ck := fun _ => True) (t := .one 4) (g := b_law_counted_0) (l := rngD 0 60) (sg := [some x, some r.d, some (.lst (intI l)), some (.int 0), none]) (st := st)
    (fun i sg st' => ∃ y4, sg = [some x, some r.d, some (.lst (intI l)), some (.int (cnt r.g (i - 1))), y4] ∧ st' = st)
    ⟨none, rfl, rfl⟩ (fun _ _ _ _ => trivial) fun i d sg st' hd ⟨y4, hsg, hst⟩ => by
      subst hsg; subst hst
      have hi : i < 60 := by
        have := (List.getElem?_eq_some_iff.mp hd).1
        rwa [rng_len] at this
      have : d = .int (i : Int) := by
        unfold rngD at hd
        rw [List.getElem?_map, List.getElem?_range hi] at hd
        have e : D.int (0 + (i : Int)) = d := Option.some.inj hd
        rw [← e, Int.zero_add]
      subst this
      refine ⟨_, rfl, ?_⟩
      show Flw.to _ (b_law_counted_0 [some x, some r.d, some (.lst (intI l)), some (.int (cnt r.g (i - 1))), some (.int i)] st')
      rw [cnt_lap h hi (y := none)]
      exact ⟨_, rfl, rfl⟩
  subst hsg; subst hst
  have lc : lcF (fun _ => True) (.one 4) b_law_counted_2 b_law_counted_1 [some x, some r.d, some (.lst (intI l)), some (.int (cnt r.g ((rngD 0 60).length - 1))), none] (intI l) st' = .ok [] st' := by
    have := lc_ints (g := b_law_counted_2) (f := b_law_counted_1) (l := l) (st := st') (sg := [some x, some r.d, some (.lst (intI l)), some (.int (cnt r.g ((rngD 0 60).length - 1))), none]) (i := 4) (fun _ => false) (by simp) (fun k hk => by
      obtain ⟨k0, k1⟩ := hg k hk
      obtain ⟨n, rfl⟩ := Int.eq_ofNat_of_zero_le k0
      have nb : n < 2 ^ 3000 := Nat.lt_trans (show n < 2 ^ 2000 by omega) (Nat.pow_lt_pow_right (by decide) (by decide))
      have c := h.count (L := n) nb st'
      have m : F_law_many [r.d, .int n] st' = .ok (.int (cnt r.g n)) st' := lmany_ok h.ok nb st'
      have s := int_same (cnt r.g n) st'
      obtain ⟨_, t, _, hx, _⟩ := h
      rw [t.d_eq] at hx
      subst hx
      rw [at_b_law_counted_2]
      generalize cnt r.g n = V at *
      generalize r.d = RD at *
      generalize t.pl = PL at *
      generalize (n : Int) = N at *
      simp -implicitDefEqProofs [c, m, s]) fun k hk => by rw [at_b_law_counted_1]; rfl
    rw [this]
    congr 1
    clear this e1 hg hl
    induction l with
    | nil => rfl
    | cons a r ih => exact ih
  have zl : (intI l).length ≤ 16777216 := by unfold intI; rw [List.length_map]; omega
  have en : ∀ st, dEq (.lst []) (.lst []) st = .ok (.bl true) st := fun st => by
    rw [dEq_py st rfl rfl (by decide)]
    rfl
  have rr : ∀ sg st, iRange2 (aCons (fC (.int 0)) (aCons (fC (.int 60)) aNil)) sg st = .ok ⟨rngD 0 60, fun _ => True⟩ st := fun sg st => by
    have rl : (rngD 0 60).length ≤ 16777216 := by rw [rng_len]; decide
    generalize hR : rngD 0 60 = R at *
    simp -implicitDefEqProofs [hR, rl]
  generalize cnt r.g ((rngD 0 60).length - 1) = V at *
  generalize rngD 0 60 = RN at *
  generalize intI l = IL at *
  generalize r.d = RD at *
  simp only [F_law_counted, g_law_counted]
  generalize iRange2 (aCons (fC (.int 0)) (aCons (fC (.int 60)) aNil)) = IT at rr ⊢
  simp -implicitDefEqProofs [rr, e1, lcR, wipeD, lc, zl, en]
theorem num_lap {x : D} {r : Rw} (h : IsSt x r) {A : D} {n : Nat} (n1 : 1 ≤ n) (hn : n < 2 ^ 1000) {y : Option D} (st : Sto) :
    ∃ y', b_law_numbered_0 [some x, some r.d, some A, some (if r.cs = [] then D.int r.ch.length else .non), some (.int n), y] st = .nx [some x, some r.d, some A, some (if r.cs = [] then D.int r.ch.length else .non), some (.int n), y'] st := by
  have m1 := h.ok.m1
  have m2 := h.ok.m2
  obtain ⟨v, hv, hb, e⟩ := h.nth n1 hn st
  have fin := h.fin
  have inf := h.inf
  have ms : ∀ k : Nat, v = some k → F_law_is_in [r.d, .int k] st = .ok (.bl true) st ∧ F_law_many [r.d, .int k] st = .ok (.int n) st ∧ ¬ (k : Int) < 1 := fun k hk => by
    have kb := hb k hk
    subst hk
    obtain ⟨a, b, c⟩ := hv.is
    have q : F_law_is_in [r.d, .int k] st = .ok (.bl (r.g k)) st := law_in_ok (cs := r.cs) (ch := r.ch) m1 (by omega) k st
    have m : F_law_many [r.d, .int k] st = .ok (.int (cnt r.g k)) st := lmany_ok h.ok (Nat.lt_trans kb (Nat.pow_lt_pow_right (by decide) (by decide))) st
    rw [b] at q
    rw [c] at m
    exact ⟨q, m, by omega⟩
  obtain ⟨_, t, _, hx, _⟩ := h
  rw [t.d_eq] at hx
  subst hx
  rw [at_b_law_numbered_0]
  refine ⟨some (oD v), ?_⟩
  by_cases c : r.cs = []
  · rw [if_pos c]
    obtain ⟨f1, e0, f2⟩ := fin c
    by_cases d : (r.ch.length : Int) < (n : Int)
    · have : v = none := by
        cases v with
        | none => rfl
        | some k =>
          have a := hv.is.2.2
          have b := f1 k
          omega
      subst this
      generalize r.d = RD at *
      generalize t.pl = PL at *
      generalize (n : Int) = N at *
      generalize (r.ch.length : Int) = LC at *
      have e' : F_Distances_nth [.ins 2 [PL], .int N] st = .ok .non st := e
      show _ = Flw.nx [_, _, _, _, _, some .non] st
      simp -implicitDefEqProofs [e', d]
    · obtain ⟨k, rfl⟩ : ∃ k, v = some k := by
        cases v with
        | none =>
          cases hv with
          | no hv =>
            have := hv e0
            omega
        | some k => exact ⟨k, rfl⟩
      obtain ⟨a1, a2, a3⟩ := ms k rfl
      have e' : F_Distances_nth [.ins 2 [t.pl], .int n] st = .ok (.int k) st := e
      show _ = Flw.nx [_, _, _, _, _, some (.int k)] st
      generalize r.d = RD at *
      generalize t.pl = PL at *
      generalize (n : Int) = N at *
      generalize (k : Int) = K at *
      generalize (r.ch.length : Int) = LC at *
      simp -implicitDefEqProofs [e', d, a1, a2, a3]
  · rw [if_neg c]
    obtain ⟨k, rfl⟩ : ∃ k, v = some k := by
      cases v with
      | none =>
        cases hv with
        | no hv =>
          obtain ⟨k, hk⟩ := inf c n
          have := hv k
          omega
      | some k => exact ⟨k, rfl⟩
    obtain ⟨a1, a2, a3⟩ := ms k rfl
    have e' : F_Distances_nth [.ins 2 [t.pl], .int n] st = .ok (.int k) st := e
    show _ = Flw.nx [_, _, _, _, _, some (.int k)] st
    generalize r.d = RD at *
    generalize t.pl = PL at *
    generalize (n : Int) = N at *
    generalize (k : Int) = K at *
    simp -implicitDefEqProofs [e', a1, a2, a3]
theorem numbered_ok {x : D} {r : Rw} (h : IsSt x r) {l : List Int} (hg : ∀ a ∈ l, 1 ≤ a ∧ a < 2 ^ 1000) (hl : l.length ≤ 100000) (st : Sto) : F_law_numbered [x, r.d, .lst (intI l)] st = .ok (.bl true) st := by
  obtain ⟨sg', st', e1, y4, y5, hsg, hst⟩ := for_to (ck := fun _ => True) (t := .one 4) (g := b_law_numbered_0) (l := intI l) (sg := [some x, some r.d, some (.lst (intI l)), some (if r.cs = [] then D.int r.ch.length else .non), none, none]) (st := st)
    (fun sg st' => ∃ y4 y5, sg = [some x, some r.d, some (.lst (intI l)), some (if r.cs = [] then D.int r.ch.length else .non), y4, y5] ∧ st' = st)
    ⟨none, none, rfl, rfl⟩ (fun _ _ _ => trivial) fun d sg st' hd ⟨y4, y5, hsg, hst⟩ => by
      subst hsg; subst hst
      unfold intI at hd
      obtain ⟨k, hk, rfl⟩ := List.mem_map.mp hd
      obtain ⟨k1, k2⟩ := hg k hk
      obtain ⟨n, rfl⟩ := Int.eq_ofNat_of_zero_le (show 0 ≤ k by omega)
      refine ⟨_, rfl, ?_⟩
      obtain ⟨y', e⟩ := num_lap h (A := .lst (intI l)) (n := n) (by omega) (by omega) (y := y5) st'
      show Flw.to _ (b_law_numbered_0 [some x, some r.d, some (.lst (intI l)), some (if r.cs = [] then D.int r.ch.length else .non), some (.int n), y5] st')
      rw [e]
      exact ⟨_, _, rfl, rfl⟩
  subst hsg; subst hst
  have zl : (intI l).length ≤ 16777216 := by unfold intI; rw [List.length_map]; omega
  have hl2 := h.ok.hl
  have t1 : (r.ch.length : Int) < 9223372036854775808 := by omega
  have l1 : (intI r.ch).length = r.ch.length := List.length_map _
  have ne : dEq (.tup (intI r.cs)) (.tup []) st' = .ok (.bl (decide (r.cs = []))) st' := by
    have ok : eqOk (.tup (intI r.cs)) (.tup []) = true := eqOk_of (by have := py_ints r.cs; exact this) rfl (by simp [dep])
    rw [dEq_ok ok rfl rfl]
    cases r.cs with
    | nil => rfl
    | cons a r => rfl
  generalize intI l = IL at *
  unfold Rw.d rowT at *
  by_cases c : r.cs = []
  · rw [decide_eq_true c] at ne
    rw [if_pos c] at e1
    generalize intI r.cs = CS at *
    generalize r.ch.length = LC at *
    generalize intI r.ch = CH at *
    generalize (r.m : Int) = M at *
    simp -implicitDefEqProofs [F_law_numbered, g_law_numbered, ne, l1, t1, e1, zl]
  · rw [decide_eq_false c] at ne
    rw [if_neg c] at e1
    generalize intI r.cs = CS at *
    generalize intI r.ch = CH at *
    generalize (r.m : Int) = M at *
    simp -implicitDefEqProofs [F_law_numbered, g_law_numbered, ne, e1, zl]
end Law
/-! k07: whole -/
namespace Law
open PySem Sh
theorem rev_intI (l : List Int) : (intI l).reverse = intI l.reverse := by unfold intI; rw [List.map_reverse]
theorem k07_lap {x : D} {r : Rw} (h : IsSt x r) {l ns : List Int} (hg : ∀ a ∈ l, 0 ≤ a ∧ a < 2 ^ 2000) (hl : l.length ≤ 100000) (ng : ∀ a ∈ ns, 1 ≤ a ∧ a < 2 ^ 1000) (nl : ns.length ≤ 100000) {x0 x5 x6 x7 : Option D} (st : Sto) :
    b_law_right_2 [x0, some r.d, some x, some (.lst (intI l)), some (.lst (intI ns)), x5, x6, x7] st = .nx [x0, some r.d, some x, some (.lst (intI l.reverse)), some (.lst (intI ns.reverse)), x5, x6, x7] st := by
  have c := counted_ok h hg hl st
  have n := numbered_ok h ng nl st
  have z1 : (intI l).length ≤ 16777216 := by unfold intI; rw [List.length_map]; omega
  have z2 : (intI ns).length ≤ 16777216 := by unfold intI; rw [List.length_map]; omega
  rw [at_b_law_right_2, ← rev_intI, ← rev_intI]
  generalize intI l = A at *
  generalize intI ns = B at *
  generalize r.d = RD at *
  simp -implicitDefEqProofs [c, n, z1, z2]
theorem right_row {n : Nat} {r : Rw} (ro : r.ok) {t : Int} {st : Sto} (hp : Pot st n t) (ht : t < 2 ^ 53) (hpu : PuS st) :
    ∃ (x y : D) (as ns : List Int) (a0 : Int) (y3 : D) (b1 b2 : Int) (ps : List Int) (s4 s5 s6 : Sto), F_law_set [r.d] st = .ok x st ∧ IsSt x r ∧ IsSt y r.neg ∧ F_law_probes [.loc n, .lst [r.d]] st = .ok (.lst (intI ps)) s4 ∧ ps.length ≤ 60000 ∧ as = ps ++ [(r.m : Int), r.m - 1, 2 * r.m] ∧
      F_law_draw [.loc n, .int (10 ^ 50)] s4 = .ok (.int b1) s5 ∧ F_law_draw [.loc n, .int 2000] s5 = .ok (.int b2) s6 ∧ ns = ((List.range 11).map fun (k : Nat) => 1 + (k : Int)) ++ [1 + b1, 1 + b2, (r.ch.length : Int) + 1] ∧
      (∀ a ∈ as, 0 ≤ a ∧ a < 2 ^ 2000) ∧ as.length ≤ 100000 ∧ (∀ a ∈ ns, 1 ≤ a ∧ a < 2 ^ 1000) ∧ ns.length ≤ 100000 ∧ PuS s6 ∧ dIx (.lst (intI as)) (.int 0) s6 = .ok (.int a0) s6 ∧ (∃ v, F_Distances_count [x, .int a0] s6 = .ok (.int v) s6 ∧ F_law_many [r.d, .int a0] s6 = .ok (.int v) s6) ∧
      F_Distances_nth [x, .int 3] s6 = .ok y3 s6 ∧ dNe y3 y3 s6 = .ok (.bl false) s6 ∧ F_Distances_invert [x] s6 = .ok y s6 := by
  have m1 := ro.m1
  have m2 := ro.m2
  have hl := ro.hl
  obtain ⟨x, hx, e1⟩ := set_row ro st hpu
  obtain ⟨ps, s4, e2, pg, pl, d4⟩ := probes_ok (rs := [r]) (fun q hq => by rw [List.mem_singleton.mp hq]; exact ro) (by simp) hp (by omega) hpu
  obtain ⟨b1, s5, e3, b10, b11, d5⟩ := dip_dr (m := 10 ^ 50) d4.pot (by omega) (by decide) (by decide)
  obtain ⟨b2, s6, e4, b20, b21, d6⟩ := dip_dr (m := 2000) d5.pot (by omega) (by decide) (by decide)
  have pu6 := ((d4.trans d5).trans d6).pus hpu
  obtain ⟨y, hy, e5⟩ := hx.neg s6 pu6
  have ag : ∀ a ∈ ps ++ [(r.m : Int), r.m - 1, 2 * r.m], 0 ≤ a ∧ a < 2 ^ 2000 := fun a ha => by
    rcases List.mem_append.mp ha with ha | ha
    · have := pg a ha
      refine ⟨by omega, Int.lt_trans this.2 ?_⟩
      exact Int.ofNat_lt.mpr (Nat.pow_lt_pow_right (by decide) (by decide : 300 < 2000))
    · have b : (2000 : Int) < 2 ^ 2000 := Int.ofNat_lt.mpr (show 2000 < 2 ^ 2000 from Nat.lt_of_lt_of_le (by decide : 2000 < 2 ^ 11) (Nat.pow_le_pow_right (by decide) (by decide)))
      simp only [List.mem_cons, List.not_mem_nil, or_false] at ha
      rcases ha with rfl | rfl | rfl
      · exact ⟨by omega, Int.lt_trans (by omega) b⟩
      · exact ⟨by omega, Int.lt_trans (by omega) b⟩
      · exact ⟨by omega, Int.lt_trans (by omega) b⟩
  obtain ⟨a0, rest, ea⟩ : ∃ a0 rest, ps ++ [(r.m : Int), r.m - 1, 2 * r.m] = a0 :: rest := by
    cases ps with
    | nil => exact ⟨_, _, rfl⟩
    | cons a q => exact ⟨_, _, rfl⟩
  obtain ⟨a00, a01⟩ := ag a0 (by rw [ea]; exact List.mem_cons_self)
  obtain ⟨k, rfl⟩ := Int.eq_ofNat_of_zero_le a00
  have kb : k < 2 ^ 3000 := Nat.lt_trans (show k < 2 ^ 2000 by omega) (Nat.pow_lt_pow_right (by decide) (by decide))
  obtain ⟨y3, _, _, e6⟩ := hx.nth (n := 3) (by decide) (by decide) s6
  refine ⟨x, y, _, _, k, oD y3, b1, b2, ps, s4, s5, s6, e1, hx, hy, e2, pl, rfl, e3, e4, rfl, ag, ?_, ?_, ?_, pu6, ?_, ⟨_, hx.count kb s6, lmany_ok ro kb s6⟩, e6, ?_, e5⟩
  · rw [List.length_append]
    simp
    omega
  · intro a ha
    have b : (2 ^ 200 : Int) < 2 ^ 1000 := Int.ofNat_lt.mpr (Nat.pow_lt_pow_right (by decide) (by decide : 200 < 1000))
    rcases List.mem_append.mp ha with ha | ha
    · obtain ⟨i, hi, rfl⟩ := List.mem_map.mp ha
      have := List.mem_range.mp hi
      exact ⟨by omega, Int.lt_trans (by omega) b⟩
    · simp only [List.mem_cons, List.not_mem_nil, or_false] at ha
      rcases ha with rfl | rfl | rfl
      · exact ⟨by omega, Int.lt_trans (by omega) b⟩
      · exact ⟨by omega, Int.lt_trans (by omega) b⟩
      · exact ⟨by omega, Int.lt_trans (by omega) b⟩
  · simp
  · rw [ea, show intI ((k : Int) :: rest) = .int k :: intI rest from rfl]
    simp -implicitDefEqProofs
  · cases y3 with
    | none => exact (dNe_ok (x' := .non) (y' := .non) rfl).trans rfl
    | some v =>
      show dNe (.int v) (.int v) s6 = _
      simp -implicitDefEqProofs
end Law
/-! k07: the end -/
namespace Law
open PySem Sh
theorem ix0 (a b c : D) (S : Sto) : dIx (.tup [a, b, c]) (.int 0) S = .ok a S := by simp -implicitDefEqProofs
theorem ix1 (a b c : D) (S : Sto) : dIx (.tup [a, b, c]) (.int 1) S = .ok b S := by simp -implicitDefEqProofs
theorem ix2 (a b c : D) (S : Sto) : dIx (.tup [a, b, c]) (.int 2) S = .ok c S := by simp -implicitDefEqProofs
noncomputable def k07G : SF := (sSeq (sPar 2 3 (aCons (fCall (cF F_law_set 1 []) (aCons (fVar 1) aNil)) (aCons (fBin dAddL (fCall (cF F_law_probes 2 []) (aCons (fVar 0) (aCons (fLst (aCons (fVar 1) aNil)) aNil))) (fLst (aCons (fBin dIx (fVar 1) (fC (.int 0))) (aCons (fBin dSub (fBin dIx (fVar 1) (fC (.int 0))) (fC (.int 1))) (aCons (fBin dMul (fC (.int 2)) (fBin dIx (fVar 1) (fC (.int 0)))) aNil))))) aNil))) (sSeq (sSet 4 (fBin dAdd (fRg2 kRgL (fC (.int 1)) (fC (.int 12))) (fLst (aCons (fBin dAdd (fC (.int 1)) (fCall (cF F_law_draw 2 []) (aCons (fVar 0) (aCons (fBin dPow (fC (.int 10)) (fC (.int 50))) aNil)))) (aCons (fBin dAdd (fC (.int 1)) (fCall (cF F_law_draw 2 []) (aCons (fVar 0) (aCons (fC (.int 2000)) aNil)))) (aCons (fBin dAdd (fCall bLen (aCons (fBin dIx (fVar 1) (fC (.int 2))) aNil)) (fC (.int 1))) aNil)))))) (sSeq (sSet 5 (fTup (aCons (fBin dIx (fVar 1) (fC (.int 0))) (aCons (fCall bTuple (aCons (fLc [6] (iRange1 (aCons (fBin dIx (fVar 1) (fC (.int 0))) aNil)) (.one 6) b_law_right_1 b_law_right_0) aNil)) (aCons (fBin dIx (fVar 1) (fC (.int 2))) aNil))))) (sSeq (sFor (iRange1 (aCons (fC (.int 2)) aNil)) (.one 7) b_law_right_2) (sSeq (sIf (tOr' (tOfE (fBin dNe (fMeth 2 F_Distances_count 2 [] (fVar 2) (aCons (fBin dIx (fVar 3) (fC (.int 0))) aNil)) (fCall (cF F_law_many 2 []) (aCons (fVar 1) (aCons (fBin dIx (fVar 3) (fC (.int 0))) aNil))))) (tOfE (fBin dNe (fMethK 2 (cK F_Distances_nth 2 1 1 [(0, 0), (2, 0)] []) (fVar 2) (aCons (fC (.int 3)) aNil)) (fMeth 2 F_Distances_nth 2 [] (fVar 2) (aCons (fC (.int 3)) aNil))))) (sRet (fC (.bl false))) sNil) (sRet (fAnd (fCall (cF F_law_counted 3 []) (aCons (fUn (uOwn 2 F_Distances_invert 1 (fun _ _ => .bad)) (fVar 2)) (aCons (fVar 5) (aCons (fVar 3) aNil)))) (fCall (cF F_law_numbered 3 []) (aCons (fUn (uOwn 2 F_Distances_invert 1 (fun _ _ => .bad)) (fVar 2)) (aCons (fVar 5) (aCons (fVar 4) aNil)))))))))))
theorem k07G_eq : g_law_right = (sSeq (sSet 1 (fCall (cF F_law_row 3 []) (aCons (fVar 0) (aCons (fCall (cF F_law_draw 2 []) (aCons (fVar 0) (aCons (fC (.int 2)) aNil))) (aCons (fC (.int 12)) aNil))))) (sSeq (sIf (tOfE (fBin dEq (fCall (cF F_law_draw 2 []) (aCons (fVar 0) (aCons (fC (.int 4)) aNil))) (fC (.int 0)))) (sSet 1 (fTup (aCons (fBin dIx (fVar 1) (fC (.int 0))) (aCons (fTup aNil) (aCons (fBin dIx (fVar 1) (fC (.int 2))) aNil))))) sNil) k07G)) := rfl
theorem k07_tail {n : Nat} {r : Rw} (ro : r.ok) {t : Int} {st : Sto} (hp : Pot st n t) (ht : t < 2 ^ 53) (hpu : PuS st) {CS CH : List D} {M : Int} (hM : (r.m : Int) = M) (hcs : intI r.cs = CS) (hch : intI r.ch = CH)
    : ∃ st', k07G [some (.loc n), some (.tup [.int M, .tup CS, .tup CH]), none, none, none, none, none, none] st = .ret (.bl true) st' ∧ PuS st' := by
  obtain ⟨x, y, as, ns, a0, y3, b1, b2, ps, s4, s5, s6, e1, hx, hy, e2, pl, has, e3, e4, hns, ag, al, ng, nl, pu6, ix, ⟨v, c1, c2⟩, n3, nn, e5⟩ := right_row ro hp ht hpu
  refine ⟨s6, ?_, pu6⟩
  have m1 := ro.m1
  have m2 := ro.m2
  have hl := ro.hl
  have rd : r.d = .tup [.int M, .tup CS, .tup CH] := by rw [← hM, ← hcs, ← hch]; rfl
  have rn : r.neg.d = .tup [.int M, .tup (intI r.neg.cs), .tup CH] := by rw [← hM, ← hch]; rfl
  have L1 := k07_lap hx ag al ng nl (x0 := some (.loc n)) (x5 := some r.neg.d) (x6 := none) s6 (x7 := some (.int 0))
  have L2 := k07_lap hx (l := as.reverse) (ns := ns.reverse) (fun a h => ag a (List.mem_reverse.mp h)) (by rw [List.length_reverse]; exact al) (fun a h => ng a (List.mem_reverse.mp h)) (by rw [List.length_reverse]; exact nl) (x0 := some (.loc n)) (x5 := some r.neg.d) (x6 := none) s6 (x7 := some (.int 1))
  rw [List.reverse_reverse, List.reverse_reverse] at L2
  have e0 : forF (fun _ => True) (.one 7) b_law_right_2 (rngD 0 2) [some (.loc n), some r.d, some x, some (.lst (intI as)), some (.lst (intI ns)), some r.neg.d, none, none] s6 = .nx [some (.loc n), some r.d, some x, some (.lst (intI as)), some (.lst (intI ns)), some r.neg.d, none, some (.int 1)] s6 := by
    rw [show rngD 0 2 = [.int 0, .int 1] from rfl]
    generalize intI as = A at *
    generalize intI ns = B at *
    generalize intI as.reverse = A2 at *
    generalize intI ns.reverse = B2 at *
    simp -implicitDefEqProofs [forF, L1, L2]
  clear L1 L2
  have cn := counted_ok hy ag al s6
  have nu := numbered_ok hy ng nl s6
  have pa : intI ps ++ [.int M, .int (M - 1), .int (2 * M)] = intI as := by
    rw [has, ← hM]
    unfold intI
    rw [List.map_append]
    rfl
  have pz : (intI ps).length ≤ 16777213 := by unfold intI; rw [List.length_map]; omega
  have kr : kRgL 1 12 s4 = .ok (.lst (rgD 1 12)) s4 := by
    unfold kRgL
    rw [if_pos (by decide)]
  have lch : CH.length = r.ch.length := by rw [← hch]; exact List.length_map _
  have ra : rgD 1 12 ++ [.int (1 + b1), .int (1 + b2), .int ((r.ch.length : Int) + 1)] = intI ns := by
    rw [hns]
    unfold intI rgD
    rw [List.map_append, List.map_map]
    rfl
  have rz : (rgD 1 12).length ≤ 16777213 := by simp [rgD]
  have lc : lcF (fun _ => True) (.one 6) b_law_right_1 b_law_right_0 [some (.loc n), some r.d, some x, some (.lst (intI as)), some (.lst (intI ns)), none, none, none] (rngD 0 r.m) s6 = .ok (intI r.neg.cs) s6 := by
    rw [rngI_D]
    refine lc_ints (fun k => !(decide (k ∈ r.cs))) (by simp) (fun k hk => ?_) fun k hk => by rw [at_b_law_right_0]; rfl
    have it := in_tup r.cs k true s6
    simp only [if_true] at it
    rw [at_b_law_right_1, rd, ← hcs]
    generalize intI r.cs = CS' at *
    generalize intI as = A at *
    generalize intI ns = B at *
    simp -implicitDefEqProofs [it]
  have zr : (rngD 0 r.m).length ≤ 16777216 := by rw [rng_len]; omega
  have zn : (intI r.neg.cs).length ≤ 16777216 := by
    unfold intI
    rw [List.length_map]
    have := (Rw.neg_ok ro).cl
    omega
  have tM : M.toNat = r.m := by omega
  have bM : -4611686018427387904 ≤ M ∧ M < 4611686018427387904 := by omega
  have mo : mulOk 2 M := (Bd.of (n := 20) (by omega) (by omega)).mulOk (Bd.of (n := 20) (by omega) (by omega))
  have p50 : powOk 10 50 := by decide
  have t1 : (r.ch.length : Int) < 9223372036854775808 := by omega
  have z2 : (rngD 0 2).length ≤ 16777216 := by rw [rng_len]; decide
  have e3' : F_law_draw [.loc n, .int 100000000000000000000000000000000000000000000000000] s4 = .ok (.int b1) s5 := e3
  have xi : ∃ pl, x = .ins 2 [pl] := by obtain ⟨_, t, _, hx, _⟩ := hx; exact ⟨t.pl, hx⟩
  obtain ⟨PL, rfl⟩ := xi
  have uo : uOwn 2 F_Distances_invert 1 (fun _ _ => .bad) (.ins 2 [PL]) s6 = .ok y s6 := by simp [uOwn, insOf, e5, cF]
  have ck : cK F_Distances_nth 2 1 1 [(0, 0), (2, 0)] [] [.ins 2 [PL]] [.int 3] s6 = .ok y3 s6 := n3
  rw [rn] at e0 cn nu
  rw [rd] at e0 e1 e2 c2 lc
  clear e3 hx hy has hns ag al ng nl hp hpu pu6 rd rn hM hcs hch pl
  generalize intI as = A at *
  generalize intI ns = B at *
  generalize intI ps = P at *
  generalize hR : rngD 0 r.m = R at *
  generalize hR2 : rngD 0 2 = R2 at *
  generalize intI r.neg.cs = NC at *
  generalize hRG : rgD 1 12 = RG at *
  generalize r.ch.length = LC at *
  unfold k07G
  simp -implicitDefEqProofs [-ev_dIx, ix0, ix1, ix2, e1, e2, mo, pa, pz, kr, p50, e3', e4, lch, t1, ra, rz, tM, bM, lcR, wipeD, hR, zr, lc, zn, hR2, z2, e0, ix, c1, c2, ck, n3, nn, uo, cn, nu]
theorem right_core {n : Nat} {st : Sto} (hp : Pot st n 1) (hpu : PuS st) : ∃ st', F_law_right [.loc n] st = .ok (.bl true) st' ∧ PuS st' := by
  obtain ⟨w, s1, e1, w0, w1, d1⟩ := dip_dr (m := 2) hp (by decide) (by decide) (by decide)
  obtain ⟨m, cs, ch, s2, e2, r, _, _, d2⟩ := row_draw (way := w) (N := 5040) (most := 12) (by omega) d1.pot (by decide) (by decide) (d1.pus hpu)
  have D2 := d1.trans d2
  obtain ⟨z, s3, e3, z0, z1, d3⟩ := dip_dr (m := 4) D2.pot (by decide) (by decide) (by decide)
  have D3 := D2.trans d3
  have pu3 := D3.pus hpu
  have R0 : Rw.ok ⟨m, [], ch⟩ := ⟨r.m1, r.m2, List.nodup_nil, (fun _ h => by cases h), by show 0 ≤ 1000; decide, r.hn, r.hr, r.hl⟩
  have R1 : Rw.ok ⟨m, cs, ch⟩ := r
  obtain ⟨s8, e8, p8⟩ := k07_tail R0 D3.pot (by decide) pu3 rfl rfl rfl
  obtain ⟨s9, e9, p9⟩ := k07_tail R1 D3.pot (by decide) pu3 rfl rfl rfl
  have e8 := e8
  rw [show intI (Rw.mk m [] ch).cs = [] from rfl] at e8
  have e2 : F_law_row [.loc n, .int w, .int 12] s1 = .ok (rowT m cs ch) s2 := e2
  unfold rowT at e2
  by_cases c : z = 0
  · refine ⟨s8, ?_, p8⟩
    subst c
    simp only [F_law_right, k07G_eq]
    generalize intI cs = CS at *
    generalize intI ch = CH at *
    generalize (m : Int) = M at *
    simp -implicitDefEqProofs [-ev_dIx, ix0, ix1, ix2, e1, e2, e3, e8]
  · refine ⟨s9, ?_, p9⟩
    simp only [F_law_right, k07G_eq]
    have c' : ¬ z = 0 := c
    generalize intI cs = CS at *
    generalize intI ch = CH at *
    generalize (m : Int) = M at *
    simp -implicitDefEqProofs [-ev_dIx, ix0, ix1, ix2, e1, e2, e3, c, e9]
theorem right_ok {n : Nat} {st : Sto} (hp : Pot st n 1) (hpu : st.all soPu = true) : ∃ st', F_law_right [.loc n] st = .ok (.bl true) st' ∧ st'.all soPu = true := right_core hp hpu
end Law
/-! the pot at the start of a lap -/
namespace Law
open PySem Sh
theorem pot_pu (l : List Int) (k : Nat) (st : Sto) (hk : k < 64) : ∃ o, F_law_well [.scr l, .int k] st = .ok (.loc st.length) (st ++ [o]) ∧ Pot (st ++ [o]) st.length 1 ∧ soPu o = true := by
  obtain ⟨o, e, p⟩ := pot_ok l k st hk
  obtain ⟨o', h1, h2⟩ := p.pu
  rw [List.getElem?_append_right (Nat.le_refl _), Nat.sub_self] at h1
  have : o = o' := Option.some.inj h1
  exact ⟨o, e, p, this ▸ h2⟩
end Law
namespace Law
open PySem Sh
theorem body_ok {l : List Int} {k : Nat} {st : Sto} {b : Option D} (hk : k < 64) (hst : st.all soPu = true) : (b_law_0 [some (.scr l), some (.int k)] st).to fun sg st' => (∃ b1, sg = [some (.scr l), b1]) ∧ st'.all soPu = true := by
  obtain ⟨o, e1, p2, u2⟩ := pot_pu l k st hk
  obtain ⟨st', e3, u3⟩ := right_ok p2 (by rw [List.all_append, hst]; simp [u2])
  rw [at_b_law_0]
  simp -implicitDefEqProofs [e1, e3, -List.all_eq_true, u3]
theorem law_true (l : List Int) (hl : l.length ≤ 63) : ∃ st, Sh.fnF Law.law_N.length Law.g_law [.scr l] [] = .ok (.bl true) st := by
  obtain ⟨m, hm, em⟩ := law_rng (l := l) (n := 4) (sg := [some (.scr l), none]) (st := []) rfl (by decide) (by decide)
  obtain ⟨sg', st', e, ⟨b1, rfl⟩, _⟩ := for_to (ck := fun _ => True) (t := .one 1) (g := b_law_0) (l := rngD 0 m) (sg := [some (.scr l), none]) (st := [])
    (fun sg st => (∃ b1, sg = [some (.scr l), b1]) ∧ st.all soPu = true) ⟨⟨_, rfl⟩, rfl⟩ (fun _ _ _ => trivial) fun d sg st hd hi => by
      obtain ⟨⟨b1, rfl⟩, hs⟩ := hi
      obtain ⟨i, hi, rfl⟩ := mem_rng hd
      refine ⟨_, rfl, ?_⟩
      have := body_ok (l := l) (k := i) (st := st) (b := b1) (by omega) hs
      simpa using this
  refine ⟨st', ?_⟩
  simp -implicitDefEqProofs [g_law, law_N, em, e, -iRange1]
end Law
namespace Law
open PySem L2 Sh He
structure Txt (K : PySem.W.Frag) (mg : Str → Option Value) : Prop where
  n_len : mg "len" = none
  n_min : mg "min" = none
  n_max : mg "max" = none
  n_range : mg "range" = none
  n_int : mg "int" = none
  d_law_draw : ∃ fd, FunD K "_law_draw" "_law_draw" (defArgs s_law_draw) (defBody s_law_draw) (defScope s_law_draw) [] [] (ga K "_law_draw") fd
  m_law_draw : mg "_law_draw" = some (.ref (ga K "_law_draw"))
  d_law_modulus : ∃ fd, FunD K "_law_modulus" "_law_modulus" (defArgs s_law_modulus) (defBody s_law_modulus) (defScope s_law_modulus) [] [] (ga K "_law_modulus") fd
  m_law_modulus : mg "_law_modulus" = some (.ref (ga K "_law_modulus"))
  n_tuple : mg "tuple" = none
  d_law_classes : ∃ fd, FunD K "_law_classes" "_law_classes" (defArgs s_law_classes) (defBody s_law_classes) (defScope s_law_classes) [] [] (ga K "_law_classes") fd
  m_law_classes : mg "_law_classes" = some (.ref (ga K "_law_classes"))
  d_law_changed : ∃ fd, FunD K "_law_changed" "_law_changed" (defArgs s_law_changed) (defBody s_law_changed) (defScope s_law_changed) [] [] (ga K "_law_changed") fd
  m_law_changed : mg "_law_changed" = some (.ref (ga K "_law_changed"))
  d_law_row : ∃ fd, FunD K "_law_row" "_law_row" (defArgs s_law_row) (defBody s_law_row) (defScope s_law_row) [] [] (ga K "_law_row") fd
  m_law_row : mg "_law_row" = some (.ref (ga K "_law_row"))
  m_Plainest : mg "Plainest" = some (.ref (ga K "Plainest"))
  ow_Plainest : bOwn "Plainest" K = true
  ki_Plainest_Plainest : PySem.W.kitOne K (.ref (ga K "Plainest")) (.ref (ga K "Plainest")) = some true
  cl_Plainest : Cls K (ga K "Plainest")
  ic_Plainest : InsC K (ga K "Plainest")
  n_isinstance : mg "isinstance" = none
  ku_Plainest_int : PySem.W.kitOne K (.ref (ga K "Plainest")) (.type "int") = some false
  n_bool : mg "bool" = none
  ku_Plainest_bool : PySem.W.kitOne K (.ref (ga K "Plainest")) (.type "bool") = some false
  d_is_whole : ∃ fd, FunD K "is_whole" "is_whole" (defArgs s_is_whole) (defBody s_is_whole) (defScope s_is_whole) [] [] (ga K "is_whole") fd
  m_is_whole : mg "is_whole" = some (.ref (ga K "is_whole"))
  g_MOST_MODULUS : ∃ t, mg "MOST_MODULUS" = some (.int (720) t)
  m_NoModulus : mg "NoModulus" = some (.ref (ga K "NoModulus"))
  x_NoModulus : bExc "NoModulus" K = true
  n_all : mg "all" = none
  m_NoClasses : mg "NoClasses" = some (.ref (ga K "NoClasses"))
  x_NoClasses : bExc "NoClasses" K = true
  n_set : mg "set" = none
  m_NoChanged : mg "NoChanged" = some (.ref (ga K "NoChanged"))
  x_NoChanged : bExc "NoChanged" K = true
  d_prime_divisors : ∃ fd, FunD K "prime_divisors" "prime_divisors" (defArgs s_prime_divisors) (defBody s_prime_divisors) (defScope s_prime_divisors) [] [] (ga K "prime_divisors") fd
  m_prime_divisors : mg "prime_divisors" = some (.ref (ga K "prime_divisors"))
  d_is_periodic : ∃ fd, FunD K "is_periodic" "is_periodic" (defArgs s_is_periodic) (defBody s_is_periodic) (defScope s_is_periodic) [] [] (ga K "is_periodic") fd
  m_is_periodic : mg "is_periodic" = some (.ref (ga K "is_periodic"))
  d_least_period : ∃ fd, FunD K "least_period" "least_period" (defArgs s_least_period) (defBody s_least_period) (defScope s_least_period) [] [] (ga K "least_period") fd
  m_least_period : mg "least_period" = some (.ref (ga K "least_period"))
  na_Plainest_period : NoAttr K (ga K "Plainest") "period"
  na_Plainest_flags : NoAttr K (ga K "Plainest") "flags"
  na_Plainest_flipped : NoAttr K (ga K "Plainest") "flipped"
  d_sums_of : ∃ fd, FunD K "sums_of" "sums_of" (defArgs s_sums_of) (defBody s_sums_of) (defScope s_sums_of) [] [] (ga K "sums_of") fd
  m_sums_of : mg "sums_of" = some (.ref (ga K "sums_of"))
  na_Plainest_below : NoAttr K (ga K "Plainest") "below"
  d_Plainest_init : ∃ fd, FunD K "__init__" "Plainest.__init__" (defArgs s_Plainest_init) (defBody s_Plainest_init) (defScope s_Plainest_init) [] [] (ma K (ga K "Plainest") "__init__") fd
  n_sorted : mg "sorted" = none
  mk_Plainest : Mk K (ga K "Plainest") (ma K (ga K "Plainest") "__init__")
  d_checked : ∃ fd, FunD K "checked" "checked" (defArgs s_checked) (defBody s_checked) (defScope s_checked) [] [] (ga K "checked") fd
  m_checked : mg "checked" = some (.ref (ga K "checked"))
  m_Distances : mg "Distances" = some (.ref (ga K "Distances"))
  cl_Distances : Cls K (ga K "Distances")
  na_Distances_plain : NoAttr K (ga K "Distances") "plain"
  nd_Distances_init_1 : nilB (dflAt ("Distances", some "__init__") 1) K = true
  nd_Distances_init_2 : nilB (dflAt ("Distances", some "__init__") 2) K = true
  d_Distances_init : ∃ fd, FunD K "__init__" "Distances.__init__" (defArgs s_Distances_init) (defBody s_Distances_init) (defScope s_Distances_init) [V.int 1, V.ref (dflAt ("Distances", some "__init__") 1 K), V.ref (dflAt ("Distances", some "__init__") 2 K)] [] (ma K (ga K "Distances") "__init__") fd
  mk_Distances : Mk K (ga K "Distances") (ma K (ga K "Distances") "__init__")
  d_law_set : ∃ fd, FunD K "_law_set" "_law_set" (defArgs s_law_set) (defBody s_law_set) (defScope s_law_set) [] [] (ga K "_law_set") fd
  m_law_set : mg "_law_set" = some (.ref (ga K "_law_set"))
  n_list : mg "list" = none
  d_law_probes : ∃ fd, FunD K "_law_probes" "_law_probes" (defArgs s_law_probes) (defBody s_law_probes) (defScope s_law_probes) [] [] (ga K "_law_probes") fd
  m_law_probes : mg "_law_probes" = some (.ref (ga K "_law_probes"))
  d_law_is_in : ∃ fd, FunD K "_law_is_in" "_law_is_in" (defArgs s_law_is_in) (defBody s_law_is_in) (defScope s_law_is_in) [] [] (ga K "_law_is_in") fd
  m_law_is_in : mg "_law_is_in" = some (.ref (ga K "_law_is_in"))
  m_law_same : mg "_law_same" = some (.ref (ga K "_law_same"))
  n_str : mg "str" = none
  d_law_same : ∃ fd, FunD K "_law_same" "_law_same" (defArgs s_law_same) (defBody s_law_same) (defScope s_law_same) [] [] (ga K "_law_same") fd
  m_NoLimit : mg "NoLimit" = some (.ref (ga K "NoLimit"))
  x_NoLimit : bExc "NoLimit" K = true
  n_divmod : mg "divmod" = none
  d_Plainest_many : ∃ fd, FunD K "many" "Plainest.many" (defArgs s_Plainest_many) (defBody s_Plainest_many) (defScope s_Plainest_many) [] [] (ma K (ga K "Plainest") "many") fd
  me_Plainest_many : Meth K (ga K "Plainest") "many" (ma K (ga K "Plainest") "many")
  d_Distances_count : ∃ fd, FunD K "count" "Distances.count" (defArgs s_Distances_count) (defBody s_Distances_count) (defScope s_Distances_count) [] [] (ma K (ga K "Distances") "count") fd
  me_Distances_count : Meth K (ga K "Distances") "count" (ma K (ga K "Distances") "count")
  d_law_many : ∃ fd, FunD K "_law_many" "_law_many" (defArgs s_law_many) (defBody s_law_many) (defScope s_law_many) [] [] (ga K "_law_many") fd
  m_law_many : mg "_law_many" = some (.ref (ga K "_law_many"))
  d_law_counted : ∃ fd, FunD K "_law_counted" "_law_counted" (defArgs s_law_counted) (defBody s_law_counted) (defScope s_law_counted) [] [] (ga K "_law_counted") fd
  m_law_counted : mg "_law_counted" = some (.ref (ga K "_law_counted"))
  m_NoNumber : mg "NoNumber" = some (.ref (ga K "NoNumber"))
  x_NoNumber : bExc "NoNumber" K = true
  d_Plainest_end : ∃ fd, FunD K "end" "Plainest.end" (defArgs s_Plainest_end) (defBody s_Plainest_end) (defScope s_Plainest_end) [] [] (ma K (ga K "Plainest") "end") fd
  me_Plainest_end : Meth K (ga K "Plainest") "end" (ma K (ga K "Plainest") "end")
  d_Plainest_member : ∃ fd, FunD K "member" "Plainest.member" (defArgs s_Plainest_member) (defBody s_Plainest_member) (defScope s_Plainest_member) [] [] (ma K (ga K "Plainest") "member") fd
  me_Plainest_member : Meth K (ga K "Plainest") "member" (ma K (ga K "Plainest") "member")
  d_Distances_nth : ∃ fd, FunD K "nth" "Distances.nth" (defArgs s_Distances_nth) (defBody s_Distances_nth) (defScope s_Distances_nth) [] [] (ma K (ga K "Distances") "nth") fd
  me_Distances_nth : Meth K (ga K "Distances") "nth" (ma K (ga K "Distances") "nth")
  d_law_numbered : ∃ fd, FunD K "_law_numbered" "_law_numbered" (defArgs s_law_numbered) (defBody s_law_numbered) (defScope s_law_numbered) [] [] (ga K "_law_numbered") fd
  m_law_numbered : mg "_law_numbered" = some (.ref (ga K "_law_numbered"))
  d_Distances_invert : ∃ fd, FunD K "__invert__" "Distances.__invert__" (defArgs s_Distances_invert) (defBody s_Distances_invert) (defScope s_Distances_invert) [] [] (ma K (ga K "Distances") "__invert__") fd
  me_Distances_invert : Meth K (ga K "Distances") "__invert__" (ma K (ga K "Distances") "__invert__")
  d_law_right : ∃ fd, FunD K "_law_right" "_law_right" (defArgs s_law_right) (defBody s_law_right) (defScope s_law_right) [] [] (ga K "_law_right") fd
  n_abs : mg "abs" = none
  d_law_well : ∃ fd, FunD K "_law_well" "_law_well" (defArgs s_law_well) (defBody s_law_well) (defScope s_law_well) [] [] (ga K "_law_well") fd
  m_law_well : mg "_law_well" = some (.ref (ga K "_law_well"))
  m_law_right : mg "_law_right" = some (.ref (ga K "_law_right"))
  d_law : ∃ fd, FunD K "law" "law" (defArgs s_law) (defBody s_law) (defScope s_law) [] [] (ga K "law") fd
  m_law : mg "law" = some (.ref (ga K "law"))
section
variable {P : Program} {w : World} {K : PySem.W.Frag} {mg : Str → Option Value} {base : Heap}
theorem sc_law_draw : FnScope ["_law_well_here", "_law_many_here", "_law_found", "_law_step", "_law_mixed"] ["_law_well_here", "_law_many_here"] (defScope s_law_draw) := ⟨rfl, rfl, rfl, by decide +kernel, rfl, by decide +kernel, by decide +kernel⟩
theorem ok_law_draw (T : Txt K mg) : DefOk P w K mg base 1 (ga K "_law_draw") ["_law_well_here", "_law_many_here"] [] F_law_draw := by
  refine def_ok (N := ["_law_well_here", "_law_many_here", "_law_found", "_law_step", "_law_mixed"]) (k := 0) (g := g_law_draw) T.d_law_draw sc_law_draw (fun _ _ _ _ _ _ us hl => match us, hl with | [_, _], _ => rfl) ?_
  intro cdv A outer s H E hr
  exact (ss_cons (ss_if (sb_cmp op_gt fits_cmpI (se_ix (se_var (pv 0)) se_int (fun _ _ => rfl)) se_int (nomark _)) (ss_cons (ss_set (i := 2) sc_law_draw.nd rfl (by first | exact Or.inl rfl | exact Or.inr rfl) (se_bin op_modN fits_mod (se_callTy call_int1 fits_int (by rfl) T.n_int (by decide +kernel) (sa_cons (se_ix (se_var (pv 0)) se_int (fun _ _ => rfl)) sa_nil)) (se_var (pv 1)))) (ss_cons (ss_sub (se_var (pv 0)) se_int (se_bin op_fdivA fits_div (se_ix (se_var (pv 0)) se_int (fun _ _ => rfl)) (se_var (pv 1)))) (ss_one (ss_ret (se_var (pv 2)))))) ss_nil) (ss_cons (ss_sub (se_var (pv 0)) se_int (se_bin op_addA fits_add (se_ix (se_var (pv 0)) se_int (fun _ _ => rfl)) se_int)) (ss_cons (ss_set (i := 3) sc_law_draw.nd rfl (by first | exact Or.inl rfl | exact Or.inr rfl) (se_bin op_mulW fits_mul se_int (se_ix (se_var (pv 0)) se_int (fun _ _ => rfl)))) (ss_cons (ss_set (i := 4) sc_law_draw.nd rfl (by first | exact Or.inl rfl | exact Or.inr rfl) (se_bin op_modN fits_mod (se_callTy call_int1 fits_int (by rfl) T.n_int (by decide +kernel) (sa_cons (se_bin op_addA fits_add (se_bin op_powW fits_pow (se_bin op_addA fits_add (se_ix (se_var (pv 0)) se_int (fun _ _ => rfl)) (se_var (pv 3))) se_int) (se_bin op_mulW fits_mul se_int (se_var (pv 3)))) sa_nil)) (se_bin op_addA fits_add (se_bin op_powW fits_pow se_int se_int) se_int))) (ss_cons (ss_set (i := 4) sc_law_draw.nd rfl (by first | exact Or.inl rfl | exact Or.inr rfl) (se_bin op_modN fits_mod (se_callTy call_int1 fits_int (by rfl) T.n_int (by decide +kernel) (sa_cons (se_bin op_powW fits_pow (se_bin op_addA fits_add (se_var (pv 4)) (se_bin op_mulW fits_mul se_int (se_ix (se_var (pv 0)) se_int (fun _ _ => rfl)))) se_int) sa_nil)) (se_bin op_addA fits_add (se_bin op_powW fits_pow se_int se_int) se_int))) (ss_one (ss_ret (se_bin op_modN fits_mod (se_callTy call_int1 fits_int (by rfl) T.n_int (by decide +kernel) (sa_cons (se_bin op_fdivA fits_div (se_var (pv 4)) (se_bin op_powW fits_pow se_int se_int)) sa_nil)) (se_var (pv 1))))))))))
theorem sc_law_modulus : FnScope ["_law_well_here", "_law_way", "_law_some", "_law_k"] ["_law_well_here", "_law_way"] (defScope s_law_modulus) := ⟨rfl, rfl, rfl, by decide +kernel, rfl, by decide +kernel, by decide +kernel⟩
theorem ok_law_modulus (T : Txt K mg) : DefOk P w K mg base 2 (ga K "_law_modulus") ["_law_well_here", "_law_way"] [] F_law_modulus := by
  refine def_ok (N := ["_law_well_here", "_law_way", "_law_some", "_law_k"]) (k := 1) (g := g_law_modulus) T.d_law_modulus sc_law_modulus (fun _ _ _ _ _ _ us hl => match us, hl with | [_, _], _ => rfl) ?_
  intro cdv A outer s H E hr
  exact (ss_cons (ss_if (sb_cmp op_gt fits_cmpI (se_var (pv 1)) se_int (nomark _)) (ss_cons (ss_setLc (own := [("_law_k", 3)]) (t := (.one 3)) rfl sc_law_modulus.nd (si_range2 (by rfl) T.n_range (sa_cons se_int (sa_cons se_int sa_nil))) (blkOk_by (by rfl)) (by decide) (fun _ _ _ _ _ => (pg_name (i := 3) sc_law_modulus.nd rfl (by first | exact Or.inl rfl | exact Or.inr rfl))) (fun _ _ _ _ _ => (sts_one (sb_cmp (op_eqP hr.units) fits_eq (se_bin op_modN fits_mod (se_ix (se_lst (sa_cons se_int (sa_cons se_int sa_nil))) (se_bin op_sub fits_sub (se_var (pv 1)) se_int) (fun _ _ => rfl)) (se_var (pv 3))) se_int (nomark _)))) (fun _ _ _ _ _ => (se_var (pv 3))) (by intro _; rfl) (i := 2) rfl rfl (sw_true rfl rfl (by decide) (by decide +kernel))) (ss_one (ss_ret (se_ix (se_var (pv 2)) (se_callD (ok_law_draw T) 0 (by simp) (fun _ _ => .nil) (hr.mono (by decide)) (takes_of rfl rfl rfl rfl) (by rfl) T.m_law_draw (sa_cons (se_var (pv 0)) (sa_cons (se_ix (se_lst (sa_cons se_int (sa_cons (se_callB call_lenA fits_len (by rfl) T.n_len (by decide +kernel) (sa_cons (se_var (pv 2)) sa_nil)) sa_nil))) (se_callD (ok_law_draw T) 0 (by simp) (fun _ _ => .nil) (hr.mono (by decide)) (takes_of rfl rfl rfl rfl) (by rfl) T.m_law_draw (sa_cons (se_var (pv 0)) (sa_cons se_int sa_nil))) (fun _ _ => rfl)) sa_nil))) (fun _ _ => rfl))))) ss_nil) (ss_one (ss_ret (se_ix (se_lst (sa_cons (se_bin op_addA fits_add se_int (se_callD (ok_law_draw T) 0 (by simp) (fun _ _ => .nil) (hr.mono (by decide)) (takes_of rfl rfl rfl rfl) (by rfl) T.m_law_draw (sa_cons (se_var (pv 0)) (sa_cons se_int sa_nil)))) (sa_cons (se_bin op_addA fits_add se_int (se_callD (ok_law_draw T) 0 (by simp) (fun _ _ => .nil) (hr.mono (by decide)) (takes_of rfl rfl rfl rfl) (by rfl) T.m_law_draw (sa_cons (se_var (pv 0)) (sa_cons se_int sa_nil)))) (sa_cons (se_bin op_addA fits_add se_int (se_callD (ok_law_draw T) 0 (by simp) (fun _ _ => .nil) (hr.mono (by decide)) (takes_of rfl rfl rfl rfl) (by rfl) T.m_law_draw (sa_cons (se_var (pv 0)) (sa_cons se_int sa_nil)))) sa_nil)))) (se_callD (ok_law_draw T) 0 (by simp) (fun _ _ => .nil) (hr.mono (by decide)) (takes_of rfl rfl rfl rfl) (by rfl) T.m_law_draw (sa_cons (se_var (pv 0)) (sa_cons se_int sa_nil))) (fun _ _ => rfl)))))
theorem sc_law_classes : FnScope ["_law_well_here", "_law_base", "_law_short", "_law_marks", "_law_k", "_law_found", "_law_lap", "_law_one"] ["_law_well_here", "_law_base"] (defScope s_law_classes) := ⟨rfl, rfl, rfl, by decide +kernel, rfl, by decide +kernel, by decide +kernel⟩
theorem ok_law_classes (T : Txt K mg) : DefOk P w K mg base 2 (ga K "_law_classes") ["_law_well_here", "_law_base"] [] F_law_classes := by
  refine def_ok (N := ["_law_well_here", "_law_base", "_law_short", "_law_marks", "_law_k", "_law_found", "_law_lap", "_law_one"]) (k := 1) (g := g_law_classes) T.d_law_classes sc_law_classes (fun _ _ _ _ _ _ us hl => match us, hl with | [_, _], _ => rfl) ?_
  intro cdv A outer s H E hr
  exact (ss_cons (ss_set (i := 2) sc_law_classes.nd rfl (by first | exact Or.inl rfl | exact Or.inr rfl) (se_bin op_addA fits_add se_int (se_callD (ok_law_draw T) 0 (by simp) (fun _ _ => .nil) (hr.mono (by decide)) (takes_of rfl rfl rfl rfl) (by rfl) T.m_law_draw (sa_cons (se_var (pv 0)) (sa_cons (se_callB (call_min2 rfl) fits_min (by rfl) T.n_min (by decide +kernel) (sa_cons se_int (sa_cons (se_var (pv 1)) sa_nil))) sa_nil))))) (ss_cons (ss_set (i := 3) sc_law_classes.nd rfl (by first | exact Or.inl rfl | exact Or.inr rfl) (se_lc (own := [("_law_k", 4)]) (t := (.one 4)) rfl sc_law_classes.nd (si_range1 (by rfl) T.n_range (sa_cons (se_var (pv 2)) sa_nil)) (blkOk_by (by rfl)) (by decide) (fun _ _ _ _ _ => (pg_name (i := 4) sc_law_classes.nd rfl (by first | exact Or.inl rfl | exact Or.inr rfl))) (fun _ _ _ _ _ => sts_nil) (fun _ _ _ _ _ => (se_cmp (op_eqP hr.units) fits_eq (se_callD (ok_law_draw T) 0 (by simp) (fun _ _ => .nil) (hr.mono (by decide)) takesF (by rfl) T.m_law_draw (sa_cons (se_var (pv 0)) (sa_cons se_int sa_nil))) se_int (nomark _))) (by intro _; rfl))) (ss_cons (ss_setLc (own := [("_law_k", 4)]) (t := (.one 4)) rfl sc_law_classes.nd (si_range1 (by rfl) T.n_range (sa_cons (se_var (pv 1)) sa_nil)) (blkOk_by (by rfl)) (by decide) (fun _ _ _ _ _ => (pg_name (i := 4) sc_law_classes.nd rfl (by first | exact Or.inl rfl | exact Or.inr rfl))) (fun _ _ _ _ _ => (sts_one (sb_tru (se_ix (se_var (pv 3)) (se_bin op_modN fits_mod (se_var (pv 4)) (se_var (pv 2))) (fun _ _ => rfl)) (fun _ => rfl)))) (fun _ _ _ _ _ => (se_var (pv 4))) (by intro _; rfl) (i := 5) rfl rfl (sw_true rfl rfl (by decide) (by decide +kernel))) (ss_cons (ss_for (t := (.one 6)) (passes_of rfl) rfl (si_range1 (by rfl) T.n_range (sa_cons (se_callD (ok_law_draw T) 0 (by simp) (fun _ _ => .nil) (hr.mono (by decide)) (takes_of rfl rfl rfl rfl) (by rfl) T.m_law_draw (sa_cons (se_var (pv 0)) (sa_cons se_int sa_nil))) sa_nil)) (pg_name (i := 6) sc_law_classes.nd rfl (by first | exact Or.inl rfl | exact Or.inr rfl)) (ss_cons (ss_set (i := 7) sc_law_classes.nd rfl (by first | exact Or.inl rfl | exact Or.inr rfl) (se_callD (ok_law_draw T) 0 (by simp) (fun _ _ => .nil) (hr.mono (by decide)) (takes_of rfl rfl rfl rfl) (by rfl) T.m_law_draw (sa_cons (se_var (pv 0)) (sa_cons (se_var (pv 1)) sa_nil)))) (ss_one (ss_set (i := 5) sc_law_classes.nd rfl (by first | exact Or.inl rfl | exact Or.inr rfl) (se_bin op_addA fits_add (se_lc (own := [("_law_k", 4)]) (t := (.one 4)) rfl sc_law_classes.nd (si_seq (se_var (pv 5))) (blkOk_by (by rfl)) (by decide) (fun _ _ _ _ _ => (pg_name (i := 4) sc_law_classes.nd rfl (by first | exact Or.inl rfl | exact Or.inr rfl))) (fun _ _ _ _ _ => (sts_one (sb_cmp (op_neP hr.units) fits_ne (se_var (pv 4)) (se_var (pv 7)) (nomark _)))) (fun _ _ _ _ _ => (se_var (pv 4))) (by intro _; rfl)) (se_lc (own := [("_law_k", 4)]) (t := (.one 4)) rfl sc_law_classes.nd (si_range1 (by rfl) T.n_range (sa_cons (se_callTy call_int1 fits_int (by rfl) T.n_int (by decide +kernel) (sa_cons (se_cmp op_notIn_seq fits_inL (se_var (pv 7)) (se_var (pv 5)) (by rfl)) sa_nil)) sa_nil)) (blkOk_by (by rfl)) (by decide) (fun _ _ _ _ _ => (pg_name (i := 4) sc_law_classes.nd rfl (by first | exact Or.inl rfl | exact Or.inr rfl))) (fun _ _ _ _ _ => sts_nil) (fun _ _ _ _ _ => (se_var (pv 7))) (by intro _; rfl))))))) (ss_cons (ss_set (i := 5) sc_law_classes.nd rfl (by first | exact Or.inl rfl | exact Or.inr rfl) (se_sl (se_var (pv 5)) so_none (so_some se_int))) (ss_cons (ss_if (sb_cmp (op_eqP hr.units) fits_eq (se_callD (ok_law_draw T) 0 (by simp) (fun _ _ => .nil) (hr.mono (by decide)) (takes_of rfl rfl rfl rfl) (by rfl) T.m_law_draw (sa_cons (se_var (pv 0)) (sa_cons se_int sa_nil))) se_int (nomark _)) (ss_one (ss_set (i := 5) sc_law_classes.nd rfl (by first | exact Or.inl rfl | exact Or.inr rfl) (se_rev (se_var (pv 5))))) ss_nil) (ss_one (ss_ret (se_callTy call_tuple_of fits_tuple (by rfl) T.n_tuple (by decide +kernel) (sa_cons (se_var (pv 5)) sa_nil))))))))))
theorem sc_law_changed : FnScope ["_law_well_here", "_law_base", "_law_most", "_law_found", "_law_lap", "_law_way", "_law_one"] ["_law_well_here", "_law_base", "_law_most"] (defScope s_law_changed) := ⟨rfl, rfl, rfl, by decide +kernel, rfl, by decide +kernel, by decide +kernel⟩
theorem ok_law_changed (T : Txt K mg) : DefOk P w K mg base 2 (ga K "_law_changed") ["_law_well_here", "_law_base", "_law_most"] [] F_law_changed := by
  refine DefOk.cut (F := fnF 7 g_law_changed) ?_
  refine def_ok (N := ["_law_well_here", "_law_base", "_law_most", "_law_found", "_law_lap", "_law_way", "_law_one"]) (k := 1) (g := g_law_changed) T.d_law_changed sc_law_changed (fun _ _ _ _ _ _ us hl => match us, hl with | [_, _, _], _ => rfl) ?_
  intro cdv A outer s H E hr
  exact (ss_cons (ss_set (i := 3) sc_law_changed.nd rfl (by first | exact Or.inl rfl | exact Or.inr rfl) (se_new sa_nil)) (ss_cons (ss_for (t := (.one 4)) (passes_of rfl) rfl (si_range1 (by rfl) T.n_range (sa_cons (se_callD (ok_law_draw T) 0 (by simp) (fun _ _ => .nil) (hr.mono (by decide)) (takes_of rfl rfl rfl rfl) (by rfl) T.m_law_draw (sa_cons (se_var (pv 0)) (sa_cons (se_bin op_addA fits_add (se_var (pv 2)) se_int) sa_nil))) sa_nil)) (pg_name (i := 4) sc_law_changed.nd rfl (by first | exact Or.inl rfl | exact Or.inr rfl)) (ss_cons (ss_set (i := 5) sc_law_changed.nd rfl (by first | exact Or.inl rfl | exact Or.inr rfl) (se_callD (ok_law_draw T) 0 (by simp) (fun _ _ => .nil) (hr.mono (by decide)) (takes_of rfl rfl rfl rfl) (by rfl) T.m_law_draw (sa_cons (se_var (pv 0)) (sa_cons se_int sa_nil)))) (ss_cons (ss_set (i := 6) sc_law_changed.nd rfl (by first | exact Or.inl rfl | exact Or.inr rfl) (se_ix (se_lst (sa_cons (se_bin op_addA fits_add se_int (se_callD (ok_law_draw T) 0 (by simp) (fun _ _ => .nil) (hr.mono (by decide)) (takes_of rfl rfl rfl rfl) (by rfl) T.m_law_draw (sa_cons (se_var (pv 0)) (sa_cons se_int sa_nil)))) (sa_cons (se_bin op_addA fits_add se_int (se_callD (ok_law_draw T) 0 (by simp) (fun _ _ => .nil) (hr.mono (by decide)) (takes_of rfl rfl rfl rfl) (by rfl) T.m_law_draw (sa_cons (se_var (pv 0)) (sa_cons se_int sa_nil)))) (sa_cons (se_bin op_addA fits_add se_int (se_bin op_mulW fits_mul (se_var (pv 1)) (se_callD (ok_law_draw T) 0 (by simp) (fun _ _ => .nil) (hr.mono (by decide)) (takes_of rfl rfl rfl rfl) (by rfl) T.m_law_draw (sa_cons (se_var (pv 0)) (sa_cons se_int sa_nil))))) sa_nil)))) (se_bin op_modN fits_mod (se_var (pv 5)) se_int) (fun _ _ => rfl))) (ss_cons (ss_if (sb_cmp (op_eqP hr.units) fits_eq (se_var (pv 5)) se_int (nomark _)) (ss_one (ss_set (i := 6) sc_law_changed.nd rfl (by first | exact Or.inl rfl | exact Or.inr rfl) (se_bin op_addA fits_add se_int (se_callD (ok_law_draw T) 0 (by simp) (fun _ _ => .nil) (hr.mono (by decide)) (takes_of rfl rfl rfl rfl) (by rfl) T.m_law_draw (sa_cons (se_var (pv 0)) (sa_cons (se_bin op_powW fits_pow se_int se_int) sa_nil)))))) (ss_one (ss_if (sb_w (sw_and (sb_cmp (op_eqP hr.units) fits_eq (se_var (pv 5)) se_int (nomark _)) (sw_and1 (sb_cmp (op_neP hr.units) fits_ne (se_var (pv 3)) (se_lst sa_nil) (nomark _))))) (ss_one (ss_set (i := 6) sc_law_changed.nd rfl (by first | exact Or.inl rfl | exact Or.inr rfl) (se_callB (call_max2 rfl) fits_max (by rfl) T.n_max (by decide +kernel) (sa_cons se_int (sa_cons (se_bin op_addA fits_add (se_ix (se_var (pv 3)) (se_un un_neg fits_neg se_int) (fun _ _ => rfl)) (se_ix (se_lst (sa_cons (se_var (pv 1)) (sa_cons (se_un un_neg fits_neg se_int) (sa_cons se_int (sa_cons (se_un un_neg fits_neg (se_var (pv 1))) sa_nil))))) (se_callD (ok_law_draw T) 0 (by simp) (fun _ _ => .nil) (hr.mono (by decide)) (takes_of rfl rfl rfl rfl) (by rfl) T.m_law_draw (sa_cons (se_var (pv 0)) (sa_cons se_int sa_nil))) (fun _ _ => rfl))) sa_nil))))) ss_nil))) (ss_one (ss_if (sb_cmp op_notIn_seq fits_inL (se_var (pv 6)) (se_var (pv 3)) (by rfl)) (ss_one (ss_drop (se_bm PySem.F.plainAttrs_list PySem.F.slot_list_append PySem.F.type_list_append mt_append fits_app (by decide) (se_var (pv 3)) (sa_cons (se_var (pv 6)) sa_nil)))) ss_nil)))))) (ss_one (ss_ret (se_callTy call_tuple_of fits_tuple (by rfl) T.n_tuple (by decide +kernel) (sa_cons (se_var (pv 3)) sa_nil))))))
theorem sc_law_row : FnScope ["_law_well_here", "_law_way", "_law_most", "_law_base"] ["_law_well_here", "_law_way", "_law_most"] (defScope s_law_row) := ⟨rfl, rfl, rfl, by decide +kernel, rfl, by decide +kernel, by decide +kernel⟩
theorem ok_law_row (T : Txt K mg) : DefOk P w K mg base 3 (ga K "_law_row") ["_law_well_here", "_law_way", "_law_most"] [] F_law_row := by
  refine def_ok (N := ["_law_well_here", "_law_way", "_law_most", "_law_base"]) (k := 2) (g := g_law_row) T.d_law_row sc_law_row (fun _ _ _ _ _ _ us hl => match us, hl with | [_, _, _], _ => rfl) ?_
  intro cdv A outer s H E hr
  exact (ss_cons (ss_set (i := 3) sc_law_row.nd rfl (by first | exact Or.inl rfl | exact Or.inr rfl) (se_callD (ok_law_modulus T) 0 (by simp) (fun _ _ => .nil) (hr.mono (by decide)) (takes_of rfl rfl rfl rfl) (by rfl) T.m_law_modulus (sa_cons (se_var (pv 0)) (sa_cons (se_var (pv 1)) sa_nil)))) (ss_one (ss_ret (se_tup (sa_cons (se_var (pv 3)) (sa_cons (se_callD (ok_law_classes T) 0 (by simp) (fun _ _ => .nil) (hr.mono (by decide)) (takes_of rfl rfl rfl rfl) (by rfl) T.m_law_classes (sa_cons (se_var (pv 0)) (sa_cons (se_var (pv 3)) sa_nil))) (sa_cons (se_callD (ok_law_changed T) 0 (by simp) (fun _ _ => .nil) (hr.mono (by decide)) (takes_of rfl rfl rfl rfl) (by rfl) T.m_law_changed (sa_cons (se_var (pv 0)) (sa_cons (se_var (pv 3)) (sa_cons (se_var (pv 2)) sa_nil)))) sa_nil)))))))
theorem sc_is_whole : FnScope ["thing"] ["thing"] (defScope s_is_whole) := ⟨rfl, rfl, rfl, by decide +kernel, rfl, by decide +kernel, by decide +kernel⟩
theorem ok_is_whole (T : Txt K mg) : DefOk P w K mg base 1 (ga K "is_whole") ["thing"] [] F_is_whole := by
  refine def_ok (N := ["thing"]) (k := 0) (g := g_is_whole) T.d_is_whole sc_is_whole (fun _ _ _ _ _ _ us hl => match us, hl with | [_], _ => rfl) ?_
  intro cdv A outer s H E hr
  exact (ss_one (ss_ret (se_and (se_isi (by rfl) T.n_isinstance (se_var (pv 0)) (pe_bltn (v := .ty "int") (by rfl) T.n_int (by decide +kernel) rfl) (.ty _) tInt_ok ⟨⟨_, T.m_Plainest, T.ic_Plainest, T.ku_Plainest_int⟩, trivial⟩) (se_one (se_not (se_isi (by rfl) T.n_isinstance (se_var (pv 0)) (pe_bltn (v := .ty "bool") (by rfl) T.n_bool (by decide +kernel) rfl) (.ty _) tBool_ok ⟨⟨_, T.m_Plainest, T.ic_Plainest, T.ku_Plainest_bool⟩, trivial⟩))))))
theorem sc_prime_divisors : FnScope ["number", "found", "prime"] ["number"] (defScope s_prime_divisors) := ⟨rfl, rfl, rfl, by decide +kernel, rfl, by decide +kernel, by decide +kernel⟩
theorem ok_prime_divisors (T : Txt K mg) : DefOk P w K mg base 1 (ga K "prime_divisors") ["number"] [] F_prime_divisors := by
  refine def_ok (N := ["number", "found", "prime"]) (k := 0) (g := g_prime_divisors) T.d_prime_divisors sc_prime_divisors (fun _ _ _ _ _ _ us hl => match us, hl with | [_], _ => rfl) ?_
  intro cdv A outer s H E hr
  exact (ss_cons (ss_set (i := 1) sc_prime_divisors.nd rfl (by first | exact Or.inl rfl | exact Or.inr rfl) (se_new sa_nil)) (ss_cons (ss_set (i := 2) sc_prime_divisors.nd rfl (by first | exact Or.inl rfl | exact Or.inr rfl) se_int) (ss_cons (ss_while (passes_of rfl) (sb_cmp op_gt fits_cmpI (se_var (pv 0)) se_int (nomark _)) (ss_cons (ss_if (sb_cmp (op_eqP hr.units) fits_eq (se_bin op_modN fits_mod (se_var (pv 0)) (se_var (pv 2))) se_int (nomark _)) (ss_cons (ss_drop (se_bm PySem.F.plainAttrs_list PySem.F.slot_list_append PySem.F.type_list_append mt_append fits_app (by decide) (se_var (pv 1)) (sa_cons (se_var (pv 2)) sa_nil))) (ss_one (ss_while (passes_of rfl) (sb_cmp (op_eqP hr.units) fits_eq (se_bin op_modN fits_mod (se_var (pv 0)) (se_var (pv 2))) se_int (nomark _)) (ss_one (ss_set (i := 0) sc_prime_divisors.nd rfl (by first | exact Or.inl rfl | exact Or.inr rfl) (se_bin op_fdivA fits_div (se_var (pv 0)) (se_var (pv 2)))))))) ss_nil) (ss_one (ss_set (i := 2) sc_prime_divisors.nd rfl (by first | exact Or.inl rfl | exact Or.inr rfl) (se_bin op_addA fits_add (se_var (pv 2)) se_int))))) (ss_one (ss_ret (se_var (pv 1)))))))
theorem sc_is_periodic : FnScope ["flags", "period"] ["flags", "period"] (defScope s_is_periodic) := ⟨rfl, rfl, rfl, by decide +kernel, rfl, by decide +kernel, by decide +kernel⟩
theorem ok_is_periodic (T : Txt K mg) : DefOk P w K mg base 1 (ga K "is_periodic") ["flags", "period"] [] F_is_periodic := by
  refine def_ok (N := ["flags", "period"]) (k := 0) (g := g_is_periodic) T.d_is_periodic sc_is_periodic (fun _ _ _ _ _ _ us hl => match us, hl with | [_, _], _ => rfl) ?_
  intro cdv A outer s H E hr
  exact (ss_one (ss_ret (se_cmp (op_eqP hr.units) fits_eq (se_sl (se_var (pv 0)) (so_some (se_var (pv 1))) so_none) (se_sl (se_var (pv 0)) so_none (so_some (se_bin op_sub fits_sub (se_callB call_lenA fits_len (by rfl) T.n_len (by decide +kernel) (sa_cons (se_var (pv 0)) sa_nil)) (se_var (pv 1))))) (nomark _))))
theorem sc_least_period : FnScope ["flags", "period", "prime"] ["flags"] (defScope s_least_period) := ⟨rfl, rfl, rfl, by decide +kernel, rfl, by decide +kernel, by decide +kernel⟩
theorem ok_least_period (T : Txt K mg) : DefOk P w K mg base 2 (ga K "least_period") ["flags"] [] F_least_period := by
  refine DefOk.cut (F := fnF 3 g_least_period) ?_
  refine def_ok (N := ["flags", "period", "prime"]) (k := 1) (g := g_least_period) T.d_least_period sc_least_period (fun _ _ _ _ _ _ us hl => match us, hl with | [_], _ => rfl) ?_
  intro cdv A outer s H E hr
  exact (ss_cons (ss_set (i := 1) sc_least_period.nd rfl (by first | exact Or.inl rfl | exact Or.inr rfl) (se_callB call_lenA fits_len (by rfl) T.n_len (by decide +kernel) (sa_cons (se_var (pv 0)) sa_nil))) (ss_cons (ss_for (t := (.one 2)) (passes_of rfl) rfl (si_seq (se_callD (ok_prime_divisors T) 0 (by simp) (fun _ _ => .nil) (hr.mono (by decide)) (takes_of rfl rfl rfl rfl) (by rfl) T.m_prime_divisors (sa_cons (se_callB call_lenA fits_len (by rfl) T.n_len (by decide +kernel) (sa_cons (se_var (pv 0)) sa_nil)) sa_nil))) (pg_name (i := 2) sc_least_period.nd rfl (by first | exact Or.inl rfl | exact Or.inr rfl)) (ss_one (ss_while (passes_of rfl) (sb_w (sw_and (sb_cmp (op_eqP hr.units) fits_eq (se_bin op_modN fits_mod (se_var (pv 1)) (se_var (pv 2))) se_int (nomark _)) (sw_and1 (sb_tru (se_callD (ok_is_periodic T) 0 (by simp) (fun _ _ => .nil) (hr.mono (by decide)) (takes_of rfl rfl rfl rfl) (by rfl) T.m_is_periodic (sa_cons (se_var (pv 0)) (sa_cons (se_bin op_fdivA fits_div (se_var (pv 1)) (se_var (pv 2))) sa_nil))) (fun _ => rfl))))) (ss_one (ss_set (i := 1) sc_least_period.nd rfl (by first | exact Or.inl rfl | exact Or.inr rfl) (se_bin op_fdivA fits_div (se_var (pv 1)) (se_var (pv 2)))))))) (ss_one (ss_ret (se_var (pv 1))))))
theorem sc_sums_of : FnScope ["flags", "found", "place"] ["flags"] (defScope s_sums_of) := ⟨rfl, rfl, rfl, by decide +kernel, rfl, by decide +kernel, by decide +kernel⟩
theorem ok_sums_of (T : Txt K mg) : DefOk P w K mg base 1 (ga K "sums_of") ["flags"] [] F_sums_of := by
  refine DefOk.frz (F := fnF 3 g_sums_of) ?_
  refine def_ok (N := ["flags", "found", "place"]) (k := 0) (g := g_sums_of) T.d_sums_of sc_sums_of (fun _ _ _ _ _ _ us hl => match us, hl with | [_], _ => rfl) ?_
  intro cdv A outer s H E hr
  exact (ss_cons (ss_set (i := 1) sc_sums_of.nd rfl (by first | exact Or.inl rfl | exact Or.inr rfl) (se_new (sa_cons se_int sa_nil))) (ss_cons (ss_for (t := (.one 2)) (passes_of rfl) rfl (si_range2 (by rfl) T.n_range (sa_cons se_int (sa_cons (se_bin op_addA fits_add (se_callB call_lenA fits_len (by rfl) T.n_len (by decide +kernel) (sa_cons (se_var (pv 0)) sa_nil)) se_int) sa_nil))) (pg_name (i := 2) sc_sums_of.nd rfl (by first | exact Or.inl rfl | exact Or.inr rfl)) (ss_one (ss_drop (se_bm PySem.F.plainAttrs_list PySem.F.slot_list_append PySem.F.type_list_append mt_append fits_app (by decide) (se_var (pv 1)) (sa_cons (se_bin op_addA fits_add (se_ix (se_var (pv 1)) (se_un un_neg fits_neg se_int) (fun _ _ => rfl)) (se_callTy call_int1 fits_int (by rfl) T.n_int (by decide +kernel) (sa_cons (se_ix (se_var (pv 0)) (se_bin op_modN fits_mod (se_var (pv 2)) (se_callB call_lenA fits_len (by rfl) T.n_len (by decide +kernel) (sa_cons (se_var (pv 0)) sa_nil))) (fun _ _ => rfl)) sa_nil))) sa_nil))))) (ss_one (ss_ret (se_var (pv 1))))))
theorem sc_Plainest_init : FnScope ["self", "flags", "flipped"] ["self", "flags", "flipped"] (defScope s_Plainest_init) := ⟨rfl, rfl, rfl, by decide +kernel, rfl, by decide +kernel, by decide +kernel⟩
theorem ok_Plainest_init (T : Txt K mg) : DefOk P w K mg base 3 (ma K (ga K "Plainest") "__init__") ["self", "flags", "flipped"] [] F_Plainest_init := by
  refine def_ok (N := ["self", "flags", "flipped"]) (k := 2) (g := g_Plainest_init) T.d_Plainest_init sc_Plainest_init (fun _ _ _ _ _ _ us hl => match us, hl with | [_, _, _], _ => rfl) ?_
  intro cdv A outer s H E hr
  exact (ss_cons (ss_fld (ci := 1) (i := 0) (by exact T.m_Plainest) T.cl_Plainest T.na_Plainest_period rfl (by decide +kernel) (by decide) (se_var (pv 0)) (se_callD (ok_least_period T) 0 (by simp) (fun _ _ => .nil) (hr.mono (by decide)) (takes_of rfl rfl rfl rfl) (by rfl) T.m_least_period (sa_cons (se_var (pv 1)) sa_nil))) (ss_cons (ss_fld (ci := 1) (i := 1) (by exact T.m_Plainest) T.cl_Plainest T.na_Plainest_flags rfl (by decide +kernel) (by decide) (se_var (pv 0)) (se_sl (se_var (pv 1)) so_none (so_some (se_fld (c := 1) (i := 0) (by exact T.m_Plainest) T.cl_Plainest T.na_Plainest_period rfl (by decide +kernel) (se_var (pv 0)))))) (ss_cons (ss_fld (ci := 1) (i := 2) (by exact T.m_Plainest) T.cl_Plainest T.na_Plainest_flipped rfl (by decide +kernel) (by decide) (se_var (pv 0)) (se_var (pv 2))) (ss_one (ss_fld (ci := 1) (i := 3) (by exact T.m_Plainest) T.cl_Plainest T.na_Plainest_below rfl (by decide +kernel) (by decide) (se_var (pv 0)) (se_callD (ok_sums_of T) 0 (by simp) (fun _ _ => .nil) (hr.mono (by decide)) (takes_of rfl rfl rfl rfl) (by rfl) T.m_sums_of (sa_cons (se_fld (c := 1) (i := 1) (by exact T.m_Plainest) T.cl_Plainest T.na_Plainest_flags rfl (by decide +kernel) (se_var (pv 0))) sa_nil)))))))
theorem sc_checked : FnScope ["modulus", "classes", "changed", "one", "flags", "remainder"] ["modulus", "classes", "changed"] (defScope s_checked) := ⟨rfl, rfl, rfl, by decide +kernel, rfl, by decide +kernel, by decide +kernel⟩
theorem ok_checked (T : Txt K mg) : DefOk P w K mg base 5 (ga K "checked") ["modulus", "classes", "changed"] [] F_checked := by
  refine def_ok (N := ["modulus", "classes", "changed", "one", "flags", "remainder"]) (k := 4) (g := g_checked) T.d_checked sc_checked (fun _ _ _ _ _ _ us hl => match us, hl with | [_, _, _], _ => rfl) ?_
  intro cdv A outer s H E hr
  exact (ss_cons (ss_if (sb_w (sw_or (sb_not (sb_tru (se_callD (ok_is_whole T) 0 (by simp) (fun _ _ => .nil) (hr.mono (by decide)) (takes_of rfl rfl rfl rfl) (by rfl) T.m_is_whole (sa_cons (se_var (pv 0)) sa_nil)) (fun _ => rfl))) (sw_or1 (sb_not (sb_chn op_le fits_cmpI op_le fits_cmpI se_int (se_var (pv 0)) (se_gint (by rfl) T.g_MOST_MODULUS)))))) (ss_one (ss_raise (ci := 3) (xown_ok rfl T.m_NoModulus T.x_NoModulus) rfl rfl (takes_of rfl rfl rfl rfl) (by rfl))) ss_nil) (ss_cons (ss_if (sb_w (sw_or (sb_not (sb_tru (se_isi (by rfl) T.n_isinstance (se_var (pv 1)) (pe_bltn (v := .ty "tuple") (by rfl) T.n_tuple (by decide +kernel) rfl) (.ty _) tTuple_ok trivial) (fun _ => rfl))) (sw_or1 (sb_not (sb_tru (se_callB (cr_all rfl) fits_all (by rfl) T.n_all (by decide +kernel) (sa_cons (se_lc (own := [("one", 3)]) (t := (.one 3)) rfl sc_checked.nd (si_tup (se_var (pv 1))) (blkOk_by (by rfl)) (by decide) (fun _ _ _ _ _ => (pg_name (i := 3) sc_checked.nd rfl (by first | exact Or.inl rfl | exact Or.inr rfl))) (fun _ _ _ _ _ => sts_nil) (fun _ _ _ _ _ => (se_and (se_callD (ok_is_whole T) 0 (by simp) (fun _ _ => .nil) (hr.mono (by decide)) takesF (by rfl) T.m_is_whole (sa_cons (se_var (pv 3)) sa_nil)) (se_one (se_chn op_le fits_cmpI op_lt fits_cmpI se_int (se_var (pv 3)) (se_var (pv 0)))))) (by intro _; rfl)) sa_nil)) (fun _ => rfl)))))) (ss_one (ss_raise (ci := 4) (xown_ok rfl T.m_NoClasses T.x_NoClasses) rfl rfl (takes_of rfl rfl rfl rfl) (by rfl))) ss_nil) (ss_cons (ss_if (sb_cmp op_lt fits_cmpI (se_lenSet rfl (by rfl) T.n_len (by rfl) T.n_set (se_var (pv 1))) (se_callB call_lenA fits_len (by rfl) T.n_len (by decide +kernel) (sa_cons (se_var (pv 1)) sa_nil)) (nomark _)) (ss_one (ss_raise (ci := 4) (xown_ok rfl T.m_NoClasses T.x_NoClasses) rfl rfl (takes_of rfl rfl rfl rfl) (by rfl))) ss_nil) (ss_cons (ss_if (sb_w (sw_or (sb_not (sb_tru (se_isi (by rfl) T.n_isinstance (se_var (pv 2)) (pe_bltn (v := .ty "tuple") (by rfl) T.n_tuple (by decide +kernel) rfl) (.ty _) tTuple_ok trivial) (fun _ => rfl))) (sw_or1 (sb_not (sb_tru (se_callB (cr_all rfl) fits_all (by rfl) T.n_all (by decide +kernel) (sa_cons (se_lc (own := [("one", 3)]) (t := (.one 3)) rfl sc_checked.nd (si_tup (se_var (pv 2))) (blkOk_by (by rfl)) (by decide) (fun _ _ _ _ _ => (pg_name (i := 3) sc_checked.nd rfl (by first | exact Or.inl rfl | exact Or.inr rfl))) (fun _ _ _ _ _ => sts_nil) (fun _ _ _ _ _ => (se_and (se_callD (ok_is_whole T) 0 (by simp) (fun _ _ => .nil) (hr.mono (by decide)) takesF (by rfl) T.m_is_whole (sa_cons (se_var (pv 3)) sa_nil)) (se_one (se_cmp op_ge fits_cmpI (se_var (pv 3)) se_int (nomark _))))) (by intro _; rfl)) sa_nil)) (fun _ => rfl)))))) (ss_one (ss_raise (ci := 5) (xown_ok rfl T.m_NoChanged T.x_NoChanged) rfl rfl (takes_of rfl rfl rfl rfl) (by rfl))) ss_nil) (ss_cons (ss_if (sb_cmp op_lt fits_cmpI (se_lenSet rfl (by rfl) T.n_len (by rfl) T.n_set (se_var (pv 2))) (se_callB call_lenA fits_len (by rfl) T.n_len (by decide +kernel) (sa_cons (se_var (pv 2)) sa_nil)) (nomark _)) (ss_one (ss_raise (ci := 5) (xown_ok rfl T.m_NoChanged T.x_NoChanged) rfl rfl (takes_of rfl rfl rfl rfl) (by rfl))) ss_nil) (ss_cons (ss_setLc (own := [("remainder", 5)]) (t := (.one 5)) rfl sc_checked.nd (si_range1 (by rfl) T.n_range (sa_cons (se_var (pv 0)) sa_nil)) (blkOk_by (by rfl)) (by decide) (fun _ _ _ _ _ => (pg_name (i := 5) sc_checked.nd rfl (by first | exact Or.inl rfl | exact Or.inr rfl))) (fun _ _ _ _ _ => sts_nil) (fun _ _ _ _ _ => (se_cmp op_in_seq fits_inL (se_var (pv 5)) (se_var (pv 1)) (by rfl))) (by intro _; rfl) (i := 4) rfl rfl (sw_true rfl rfl (by decide) (by decide +kernel))) (ss_one (ss_ret (se_makeD (ci := 1) (ok_Plainest_init T) 0 (by simp) (fun _ _ => .nil) (hr.mono (by decide)) (takes_of rfl rfl rfl rfl) (by exact T.m_Plainest) T.mk_Plainest (by rfl) T.m_Plainest (sa_cons (se_var (pv 4)) (sa_cons (se_callTy call_tuple_of fits_tuple (by rfl) T.n_tuple (by decide +kernel) (sa_cons (se_callS (cal_sorted hr.units) (by rfl) T.n_sorted (by decide +kernel) (sa_cons (se_var (pv 2)) sa_nil)) sa_nil)) sa_nil)))))))))))
theorem sc_Distances_init : FnScope ["self", "modulus", "classes", "changed"] ["self", "modulus", "classes", "changed"] (defScope s_Distances_init) := ⟨rfl, rfl, rfl, by decide +kernel, rfl, by decide +kernel, by decide +kernel⟩
theorem ok_Distances_init (T : Txt K mg) : DefOk P w K mg base 6 (ma K (ga K "Distances") "__init__") ["self", "modulus", "classes", "changed"] [V.int 1, V.ref (dflAt ("Distances", some "__init__") 1 K), V.ref (dflAt ("Distances", some "__init__") 2 K)] F_Distances_init := by
  refine def_okD (N := ["self", "modulus", "classes", "changed"]) (k := 5) (g := g_Distances_init) T.d_Distances_init sc_Distances_init (by simp) (by simp) (fun j hj => ?_) ?_
  · match j, hj with
    | 0, _ => exact fun _ _ _ _ _ _ _ us its h1 h2 => match us, its, h1, h2 with | [_], [_, _, _], _, _ => ⟨_, rfl, rfl⟩
    | 1, _ => exact fun _ _ _ _ _ _ _ us its h1 h2 => match us, its, h1, h2 with | [_, _], [_, _, _], _, _ => ⟨_, rfl, rfl⟩
    | 2, _ => exact fun _ _ _ _ _ _ _ us its h1 h2 => match us, its, h1, h2 with | [_, _, _], [_, _, _], _, _ => ⟨_, rfl, rfl⟩
    | 3, _ => exact fun _ _ _ _ _ _ _ us its h1 h2 => match us, its, h1, h2 with | [_, _, _, _], [_, _, _], _, _ => ⟨_, rfl, rfl⟩
    | _ + 4, h => exact absurd h (by simp)
  intro cdv A outer s H E hr
  exact (ss_one (ss_fld (ci := 2) (i := 0) (by exact T.m_Distances) T.cl_Distances T.na_Distances_plain rfl (by decide +kernel) (by decide) (se_var (pv 0)) (se_if (sb_tru (se_isi (by rfl) T.n_isinstance (se_var (pv 1)) (pe_glob (v := .ref (ga K "Plainest")) (by rfl) T.m_Plainest rfl) (.own _) (tOwn_ok T.ow_Plainest) ⟨⟨_, T.m_Plainest, T.ic_Plainest, T.ki_Plainest_Plainest⟩, trivial⟩) (fun _ => rfl)) (se_var (pv 1)) (se_callD (ok_checked T) 0 (by simp) (fun _ _ => .nil) (hr.mono (by decide)) (takes_of rfl rfl rfl rfl) (by rfl) T.m_checked (sa_cons (se_var (pv 1)) (sa_cons (se_var (pv 2)) (sa_cons (se_var (pv 3)) sa_nil)))))))
theorem sc_law_set : FnScope ["_law_row_here"] ["_law_row_here"] (defScope s_law_set) := ⟨rfl, rfl, rfl, by decide +kernel, rfl, by decide +kernel, by decide +kernel⟩
theorem ok_law_set (T : Txt K mg) : DefOk P w K mg base 8 (ga K "_law_set") ["_law_row_here"] [] F_law_set := by
  refine def_ok (N := ["_law_row_here"]) (k := 7) (g := g_law_set) T.d_law_set sc_law_set (fun _ _ _ _ _ _ us hl => match us, hl with | [_], _ => rfl) ?_
  intro cdv A outer s H E hr
  exact (ss_one (ss_ret (se_makeD (ci := 2) (ok_Distances_init T) 3 (by simp) (fun _ _ => .nil) (hr.mono (by decide)) (takes_of rfl rfl rfl rfl) (by exact T.m_Distances) T.mk_Distances (by rfl) T.m_Distances (sa_cons (se_ix (se_var (pv 0)) se_int (fun _ _ => rfl)) (sa_cons (se_ix (se_var (pv 0)) se_int (fun _ _ => rfl)) (sa_cons (se_ix (se_var (pv 0)) se_int (fun _ _ => rfl)) sa_nil))))))
theorem sc_law_probes : FnScope ["_law_well_here", "_law_rows", "_law_found", "_law_row_here", "_law_one"] ["_law_well_here", "_law_rows"] (defScope s_law_probes) := ⟨rfl, rfl, rfl, by decide +kernel, rfl, by decide +kernel, by decide +kernel⟩
theorem ok_law_probes (T : Txt K mg) : DefOk P w K mg base 2 (ga K "_law_probes") ["_law_well_here", "_law_rows"] [] F_law_probes := by
  refine DefOk.frz (F := fnF 5 g_law_probes) ?_
  refine def_ok (N := ["_law_well_here", "_law_rows", "_law_found", "_law_row_here", "_law_one"]) (k := 1) (g := g_law_probes) T.d_law_probes sc_law_probes (fun _ _ _ _ _ _ us hl => match us, hl with | [_, _], _ => rfl) ?_
  intro cdv A outer s H E hr
  exact (ss_cons (ss_set (i := 2) sc_law_probes.nd rfl (by first | exact Or.inl rfl | exact Or.inr rfl) (se_listRgN2 rfl (by rfl) T.n_list (by rfl) T.n_range se_int se_int)) (ss_cons (ss_for (t := (.one 3)) (passes_of rfl) rfl (si_seq (se_var (pv 1))) (pg_name (i := 3) sc_law_probes.nd rfl (by first | exact Or.inl rfl | exact Or.inr rfl)) (ss_cons (ss_for (t := (.one 4)) (passes_of rfl) rfl (si_tup (se_ix (se_var (pv 3)) se_int (fun _ _ => rfl))) (pg_name (i := 4) sc_law_probes.nd rfl (by first | exact Or.inl rfl | exact Or.inr rfl)) (ss_one (ss_drop (se_bm PySem.F.plainAttrs_list PySem.F.slot_list_extend PySem.F.type_list_extend mt_extend fits_ext (by decide) (se_var (pv 2)) (sa_cons (se_lst (sa_cons (se_var (pv 4)) (sa_cons (se_bin op_addA fits_add (se_var (pv 4)) se_int) (sa_cons (se_callB (call_max2 rfl) fits_max (by rfl) T.n_max (by decide +kernel) (sa_cons se_int (sa_cons (se_bin op_sub fits_sub (se_var (pv 4)) se_int) sa_nil))) (sa_cons (se_bin op_addA fits_add (se_var (pv 4)) (se_ix (se_var (pv 3)) se_int (fun _ _ => rfl))) (sa_cons (se_callB (call_max2 rfl) fits_max (by rfl) T.n_max (by decide +kernel) (sa_cons se_int (sa_cons (se_bin op_sub fits_sub (se_var (pv 4)) (se_ix (se_var (pv 3)) se_int (fun _ _ => rfl))) sa_nil))) sa_nil)))))) sa_nil))))) (ss_cons (ss_drop (se_bm PySem.F.plainAttrs_list PySem.F.slot_list_append PySem.F.type_list_append mt_append fits_app (by decide) (se_var (pv 2)) (sa_cons (se_bin op_addA fits_add (se_bin op_mulW fits_mul (se_ix (se_var (pv 3)) se_int (fun _ _ => rfl)) (se_bin op_addA fits_add se_int (se_callD (ok_law_draw T) 0 (by simp) (fun _ _ => .nil) (hr.mono (by decide)) (takes_of rfl rfl rfl rfl) (by rfl) T.m_law_draw (sa_cons (se_var (pv 0)) (sa_cons (se_bin op_powW fits_pow se_int se_int) sa_nil))))) (se_callD (ok_law_draw T) 0 (by simp) (fun _ _ => .nil) (hr.mono (by decide)) (takes_of rfl rfl rfl rfl) (by rfl) T.m_law_draw (sa_cons (se_var (pv 0)) (sa_cons (se_ix (se_var (pv 3)) se_int (fun _ _ => rfl)) sa_nil)))) sa_nil))) (ss_one (ss_drop (se_bm PySem.F.plainAttrs_list PySem.F.slot_list_append PySem.F.type_list_append mt_append fits_app (by decide) (se_var (pv 2)) (sa_cons (se_bin op_addA fits_add se_int (se_callD (ok_law_draw T) 0 (by simp) (fun _ _ => .nil) (hr.mono (by decide)) (takes_of rfl rfl rfl rfl) (by rfl) T.m_law_draw (sa_cons (se_var (pv 0)) (sa_cons (se_bin op_powW fits_pow se_int se_int) sa_nil)))) sa_nil))))))) (ss_one (ss_ret (se_var (pv 2))))))
theorem sc_law_is_in : FnScope ["_law_row_here", "_law_distance"] ["_law_row_here", "_law_distance"] (defScope s_law_is_in) := ⟨rfl, rfl, rfl, by decide +kernel, rfl, by decide +kernel, by decide +kernel⟩
theorem ok_law_is_in (T : Txt K mg) : DefOk P w K mg base 1 (ga K "_law_is_in") ["_law_row_here", "_law_distance"] [] F_law_is_in := by
  refine def_ok (N := ["_law_row_here", "_law_distance"]) (k := 0) (g := g_law_is_in) T.d_law_is_in sc_law_is_in (fun _ _ _ _ _ _ us hl => match us, hl with | [_, _], _ => rfl) ?_
  intro cdv A outer s H E hr
  exact (ss_one (ss_ret (se_cmp (op_neP hr.units) fits_ne (se_cmp op_in_seq fits_inL (se_bin op_modN fits_mod (se_callTy call_int1 fits_int (by rfl) T.n_int (by decide +kernel) (sa_cons (se_var (pv 1)) sa_nil)) (se_ix (se_var (pv 0)) se_int (fun _ _ => rfl))) (se_ix (se_var (pv 0)) se_int (fun _ _ => rfl)) (by rfl)) (se_cmp op_in_seq fits_inL (se_var (pv 1)) (se_ix (se_var (pv 0)) se_int (fun _ _ => rfl)) (by rfl)) (nomark _))))
theorem sc_law_same : FnScope ["_law_found", "_law_due", "_law_is_kind", "_law_k"] ["_law_found", "_law_due"] (defScope s_law_same) := ⟨rfl, rfl, rfl, by decide +kernel, rfl, by decide +kernel, by decide +kernel⟩
theorem ok_law_same (T : Txt K mg) : DefOk P w K mg base 9 (ga K "_law_same") ["_law_found", "_law_due"] [] F_law_same := by
  refine def_rec (N := ["_law_found", "_law_due", "_law_is_kind", "_law_k"]) (k := 0) (g := g_law_same) T.d_law_same sc_law_same (fun _ _ _ _ _ _ us hl => match us, hl with | [_, _], _ => rfl) (fun n Fr ihr => ?_) 8
  intro cdv A outer s H E hr
  exact (ss_cons (ss_if (sb_tru (se_isiT0 (cl := []) (T1 := "list") (T2 := "tuple") (.inl ⟨rfl, rfl⟩) (by rfl) T.n_isinstance (se_var (pv 1)) (pe_bltn (v := .ty "list") (by rfl) T.n_list (by decide +kernel) rfl) (pe_bltn (v := .ty "tuple") (by rfl) T.n_tuple (by decide +kernel) rfl) trivial) (fun _ => rfl)) (ss_cons (ss_set (i := 2) sc_law_same.nd rfl (by first | exact Or.inl rfl | exact Or.inr rfl) (se_if (sb_tru (se_isi (by rfl) T.n_isinstance (se_var (pv 1)) (pe_bltn (v := .ty "list") (by rfl) T.n_list (by decide +kernel) rfl) (.ty _) tList_ok trivial) (fun _ => rfl)) (se_isi (by rfl) T.n_isinstance (se_var (pv 0)) (pe_bltn (v := .ty "list") (by rfl) T.n_list (by decide +kernel) rfl) (.ty _) tList_ok trivial) (se_isi (by rfl) T.n_isinstance (se_var (pv 0)) (pe_bltn (v := .ty "tuple") (by rfl) T.n_tuple (by decide +kernel) rfl) (.ty _) tTuple_ok trivial))) (ss_cons (ss_if (sb_w (sw_or (sb_not (sb_tru (se_var (pv 2)) (fun _ => rfl))) (sw_or1 (sb_cmp (op_neP hr.units) fits_ne (se_callB call_lenA fits_len (by rfl) T.n_len (by decide +kernel) (sa_cons (se_var (pv 0)) sa_nil)) (se_callB call_lenA fits_len (by rfl) T.n_len (by decide +kernel) (sa_cons (se_var (pv 1)) sa_nil)) (nomark _))))) (ss_one (ss_ret se_bl)) ss_nil) (ss_one (ss_ret (se_callB (cr_all rfl) fits_all (by rfl) T.n_all (by decide +kernel) (sa_cons (se_lc (own := [("_law_k", 3)]) (t := (.one 3)) rfl sc_law_same.nd (si_range1 (by rfl) T.n_range (sa_cons (se_callB call_lenA fits_len (by rfl) T.n_len (by decide +kernel) (sa_cons (se_var (pv 1)) sa_nil)) sa_nil)) (blkOk_by (by rfl)) (by decide) (fun _ _ _ _ _ => (pg_name (i := 3) sc_law_same.nd rfl (by first | exact Or.inl rfl | exact Or.inr rfl))) (fun _ _ _ _ _ => sts_nil) (fun _ _ _ _ _ => (se_callD (ps := ["_law_found", "_law_due"]) (dvs := []) (F := Fr) (by exact ihr) 0 (by simp) (fun _ _ => .nil) (by exact hr) takesF (by rfl) T.m_law_same (sa_cons (se_ix (se_var (pv 0)) (se_var (pv 3)) (fun _ _ => rfl)) (sa_cons (se_ix (se_var (pv 1)) (se_var (pv 3)) (fun _ _ => rfl)) sa_nil)))) (by intro _; rfl)) sa_nil)))))) ss_nil) (ss_cons (ss_if (sb_cmp op_isN fits_isN (se_var (pv 1)) se_non (nomark _)) (ss_one (ss_ret (se_cmp op_isN fits_isN (se_var (pv 0)) se_non (nomark _)))) ss_nil) (ss_cons (ss_if (sb_tru (se_isi (by rfl) T.n_isinstance (se_var (pv 1)) (pe_bltn (v := .ty "str") (by rfl) T.n_str (by decide +kernel) rfl) (.ty _) tStr_ok trivial) (fun _ => rfl)) (ss_one (ss_ret (se_and (se_isi (by rfl) T.n_isinstance (se_var (pv 0)) (pe_bltn (v := .ty "str") (by rfl) T.n_str (by decide +kernel) rfl) (.ty _) tStr_ok trivial) (se_one (se_cmp (op_eqP hr.units) fits_eq (se_var (pv 0)) (se_var (pv 1)) (nomark _)))))) ss_nil) (ss_one (ss_ret (se_and (se_isi (by rfl) T.n_isinstance (se_var (pv 0)) (pe_bltn (v := .ty "int") (by rfl) T.n_int (by decide +kernel) rfl) (.ty _) tInt_ok trivial) (se_and (se_cmp (op_eqP hr.units) fits_eq (se_isi (by rfl) T.n_isinstance (se_var (pv 0)) (pe_bltn (v := .ty "bool") (by rfl) T.n_bool (by decide +kernel) rfl) (.ty _) tBool_ok trivial) (se_isi (by rfl) T.n_isinstance (se_var (pv 1)) (pe_bltn (v := .ty "bool") (by rfl) T.n_bool (by decide +kernel) rfl) (.ty _) tBool_ok trivial) (nomark _)) (se_one (se_cmp (op_eqP hr.units) fits_eq (se_var (pv 0)) (se_var (pv 1)) (nomark _))))))))))
theorem sc_Plainest_many : FnScope ["self", "limit", "rounds", "rest", "found", "distance"] ["self", "limit"] (defScope s_Plainest_many) := ⟨rfl, rfl, rfl, by decide +kernel, rfl, by decide +kernel, by decide +kernel⟩
theorem ok_Plainest_many (T : Txt K mg) : DefOk P w K mg base 1 (ma K (ga K "Plainest") "many") ["self", "limit"] [] F_Plainest_many := by
  refine def_ok (N := ["self", "limit", "rounds", "rest", "found", "distance"]) (k := 0) (g := g_Plainest_many) T.d_Plainest_many sc_Plainest_many (fun _ _ _ _ _ _ us hl => match us, hl with | [_, _], _ => rfl) ?_
  intro cdv A outer s H E hr
  exact (ss_cons (ss_asg (t := (.many [2, 3])) (pg_tup (by rfl) (pgs_cons (pg_name (i := 2) sc_Plainest_many.nd rfl (by first | exact Or.inl rfl | exact Or.inr rfl)) (pgs_cons (pg_name (i := 3) sc_Plainest_many.nd rfl (by first | exact Or.inl rfl | exact Or.inr rfl)) pgs_nil))) (se_callB call_divmodW fits_divmod (by rfl) T.n_divmod (by decide +kernel) (sa_cons (se_var (pv 1)) (sa_cons (se_fld (c := 1) (i := 0) (by exact T.m_Plainest) T.cl_Plainest T.na_Plainest_period rfl (by decide +kernel) (se_var (pv 0))) sa_nil)))) (ss_cons (ss_set (i := 4) sc_Plainest_many.nd rfl (by first | exact Or.inl rfl | exact Or.inr rfl) (se_bin op_addA fits_add (se_bin op_mulW fits_mul (se_var (pv 2)) (se_ix (se_fld (c := 1) (i := 3) (by exact T.m_Plainest) T.cl_Plainest T.na_Plainest_below rfl (by decide +kernel) (se_var (pv 0))) (se_un un_neg fits_neg se_int) (fun _ _ => rfl))) (se_ix (se_fld (c := 1) (i := 3) (by exact T.m_Plainest) T.cl_Plainest T.na_Plainest_below rfl (by decide +kernel) (se_var (pv 0))) (se_var (pv 3)) (fun _ _ => rfl)))) (ss_cons (ss_for (t := (.one 5)) (passes_of rfl) rfl (si_tup (se_fld (c := 1) (i := 2) (by exact T.m_Plainest) T.cl_Plainest T.na_Plainest_flipped rfl (by decide +kernel) (se_var (pv 0)))) (pg_name (i := 5) sc_Plainest_many.nd rfl (by first | exact Or.inl rfl | exact Or.inr rfl)) (ss_one (ss_if (sb_cmp op_le fits_cmpI (se_var (pv 5)) (se_var (pv 1)) (nomark _)) (ss_one (ss_aug (i := 4) sc_Plainest_many.nd rfl (by first | exact Or.inl rfl | exact Or.inr rfl) ip_add fits_ipadd (se_if (sb_tru (se_ix (se_fld (c := 1) (i := 1) (by exact T.m_Plainest) T.cl_Plainest T.na_Plainest_flags rfl (by decide +kernel) (se_var (pv 0))) (se_bin op_modN fits_mod (se_var (pv 5)) (se_fld (c := 1) (i := 0) (by exact T.m_Plainest) T.cl_Plainest T.na_Plainest_period rfl (by decide +kernel) (se_var (pv 0)))) (fun _ _ => rfl)) (fun _ => rfl)) (se_un un_neg fits_neg se_int) se_int))) ss_nil))) (ss_one (ss_ret (se_var (pv 4)))))))
theorem sc_Distances_count : FnScope ["self", "limit"] ["self", "limit"] (defScope s_Distances_count) := ⟨rfl, rfl, rfl, by decide +kernel, rfl, by decide +kernel, by decide +kernel⟩
theorem ok_Distances_count (T : Txt K mg) : DefOk P w K mg base 2 (ma K (ga K "Distances") "count") ["self", "limit"] [] F_Distances_count := by
  refine def_ok (N := ["self", "limit"]) (k := 1) (g := g_Distances_count) T.d_Distances_count sc_Distances_count (fun _ _ _ _ _ _ us hl => match us, hl with | [_, _], _ => rfl) ?_
  intro cdv A outer s H E hr
  exact (ss_cons (ss_if (sb_w (sw_or (sb_not (sb_tru (se_callD (ok_is_whole T) 0 (by simp) (fun _ _ => .nil) (hr.mono (by decide)) (takes_of rfl rfl rfl rfl) (by rfl) T.m_is_whole (sa_cons (se_var (pv 1)) sa_nil)) (fun _ => rfl))) (sw_or1 (sb_cmp op_lt fits_cmpI (se_var (pv 1)) se_int (nomark _))))) (ss_one (ss_raise (ci := 6) (xown_ok rfl T.m_NoLimit T.x_NoLimit) rfl rfl (takes_of rfl rfl rfl rfl) (by rfl))) ss_nil) (ss_one (ss_ret (se_methD (c := 1) (ok_Plainest_many T) 0 (by simp) (fun _ _ => .nil) (hr.mono (by decide)) (takes_of rfl rfl rfl rfl) (by exact T.m_Plainest) T.cl_Plainest T.me_Plainest_many (by decide +kernel) (se_fld (c := 2) (i := 0) (by exact T.m_Distances) T.cl_Distances T.na_Distances_plain rfl (by decide +kernel) (se_var (pv 0))) (sa_cons (se_var (pv 1)) sa_nil)))))
theorem sc_law_many : FnScope ["_law_row_here", "_law_limit", "_law_rounds", "_law_rest", "_law_found", "_law_k", "_law_one"] ["_law_row_here", "_law_limit"] (defScope s_law_many) := ⟨rfl, rfl, rfl, by decide +kernel, rfl, by decide +kernel, by decide +kernel⟩
theorem ok_law_many (T : Txt K mg) : DefOk P w K mg base 1 (ga K "_law_many") ["_law_row_here", "_law_limit"] [] F_law_many := by
  refine def_ok (N := ["_law_row_here", "_law_limit", "_law_rounds", "_law_rest", "_law_found", "_law_k", "_law_one"]) (k := 0) (g := g_law_many) T.d_law_many sc_law_many (fun _ _ _ _ _ _ us hl => match us, hl with | [_, _], _ => rfl) ?_
  intro cdv A outer s H E hr
  exact (ss_cons (ss_asg (t := (.many [2, 3])) (pg_tup (by rfl) (pgs_cons (pg_name (i := 2) sc_law_many.nd rfl (by first | exact Or.inl rfl | exact Or.inr rfl)) (pgs_cons (pg_name (i := 3) sc_law_many.nd rfl (by first | exact Or.inl rfl | exact Or.inr rfl)) pgs_nil))) (se_tup (sa_cons (se_bin op_fdivA fits_div (se_var (pv 1)) (se_ix (se_var (pv 0)) se_int (fun _ _ => rfl))) (sa_cons (se_bin op_modN fits_mod (se_var (pv 1)) (se_ix (se_var (pv 0)) se_int (fun _ _ => rfl))) sa_nil)))) (ss_cons (ss_set (i := 4) sc_law_many.nd rfl (by first | exact Or.inl rfl | exact Or.inr rfl) (se_bin op_addA fits_add (se_bin op_mulW fits_mul (se_var (pv 2)) (se_callB call_lenA fits_len (by rfl) T.n_len (by decide +kernel) (sa_cons (se_ix (se_var (pv 0)) se_int (fun _ _ => rfl)) sa_nil))) (se_callB call_lenA fits_len (by rfl) T.n_len (by decide +kernel) (sa_cons (se_lc (own := [("_law_k", 5)]) (t := (.one 5)) rfl sc_law_many.nd (si_tup (se_ix (se_var (pv 0)) se_int (fun _ _ => rfl))) (blkOk_by (by rfl)) (by decide) (fun _ _ _ _ _ => (pg_name (i := 5) sc_law_many.nd rfl (by first | exact Or.inl rfl | exact Or.inr rfl))) (fun _ _ _ _ _ => (sts_one (sb_chn op_le fits_cmpI op_le fits_cmpI se_int (se_var (pv 5)) (se_var (pv 3))))) (fun _ _ _ _ _ => (se_var (pv 5))) (by intro _; rfl)) sa_nil)))) (ss_cons (ss_for (t := (.one 6)) (passes_of rfl) rfl (si_tup (se_ix (se_var (pv 0)) se_int (fun _ _ => rfl))) (pg_name (i := 6) sc_law_many.nd rfl (by first | exact Or.inl rfl | exact Or.inr rfl)) (ss_one (ss_if (sb_cmp op_le fits_cmpI (se_var (pv 6)) (se_var (pv 1)) (nomark _)) (ss_one (ss_set (i := 4) sc_law_many.nd rfl (by first | exact Or.inl rfl | exact Or.inr rfl) (se_bin op_addA fits_add (se_var (pv 4)) (se_if (sb_cmp op_notIn_seq fits_inL (se_bin op_modN fits_mod (se_var (pv 6)) (se_ix (se_var (pv 0)) se_int (fun _ _ => rfl))) (se_ix (se_var (pv 0)) se_int (fun _ _ => rfl)) (by rfl)) se_int (se_un un_neg fits_neg se_int))))) ss_nil))) (ss_one (ss_ret (se_var (pv 4)))))))
theorem sc_law_counted : FnScope ["_law_found", "_law_row_here", "_law_asked", "_law_many_here", "_law_limit"] ["_law_found", "_law_row_here", "_law_asked"] (defScope s_law_counted) := ⟨rfl, rfl, rfl, by decide +kernel, rfl, by decide +kernel, by decide +kernel⟩
theorem ok_law_counted (T : Txt K mg) : DefOk P w K mg base 10 (ga K "_law_counted") ["_law_found", "_law_row_here", "_law_asked"] [] F_law_counted := by
  refine def_ok (N := ["_law_found", "_law_row_here", "_law_asked", "_law_many_here", "_law_limit"]) (k := 9) (g := g_law_counted) T.d_law_counted sc_law_counted (fun _ _ _ _ _ _ us hl => match us, hl with | [_, _, _], _ => rfl) ?_
  intro cdv A outer s H E hr
  exact (ss_cons (ss_set (i := 3) sc_law_counted.nd rfl (by first | exact Or.inl rfl | exact Or.inr rfl) se_int) (ss_cons (ss_for (t := (.one 4)) (passes_of rfl) rfl (si_range2 (by rfl) T.n_range (sa_cons se_int (sa_cons se_int sa_nil))) (pg_name (i := 4) sc_law_counted.nd rfl (by first | exact Or.inl rfl | exact Or.inr rfl)) (ss_cons (ss_set (i := 3) sc_law_counted.nd rfl (by first | exact Or.inl rfl | exact Or.inr rfl) (se_bin op_addA fits_add (se_var (pv 3)) (se_callTy call_int1 fits_int (by rfl) T.n_int (by decide +kernel) (sa_cons (se_and (se_cmp op_gt fits_cmpI (se_var (pv 4)) se_int (nomark _)) (se_one (se_callD (ok_law_is_in T) 0 (by simp) (fun _ _ => .nil) (hr.mono (by decide)) (takes_of rfl rfl rfl rfl) (by rfl) T.m_law_is_in (sa_cons (se_var (pv 1)) (sa_cons (se_var (pv 4)) sa_nil))))) sa_nil)))) (ss_one (ss_if (sb_not (sb_tru (se_callD (ok_law_same T) 0 (by simp) (fun _ _ => .nil) (hr.mono (by decide)) (takes_of rfl rfl rfl rfl) (by rfl) T.m_law_same (sa_cons (se_methD (c := 2) (ok_Distances_count T) 0 (by simp) (fun _ _ => .nil) (hr.mono (by decide)) (takes_of rfl rfl rfl rfl) (by exact T.m_Distances) T.cl_Distances T.me_Distances_count (by decide +kernel) (se_var (pv 0)) (sa_cons (se_var (pv 4)) sa_nil)) (sa_cons (se_var (pv 3)) sa_nil))) (fun _ => rfl))) (ss_one (ss_ret se_bl)) ss_nil)))) (ss_one (ss_ret (se_cmp (op_eqP hr.units) fits_eq (se_lc (own := [("_law_limit", 4)]) (t := (.one 4)) rfl sc_law_counted.nd (si_seq (se_var (pv 2))) (blkOk_by (by rfl)) (by decide) (fun _ _ _ _ _ => (pg_name (i := 4) sc_law_counted.nd rfl (by first | exact Or.inl rfl | exact Or.inr rfl))) (fun _ _ _ _ _ => (sts_one (sb_not (sb_tru (se_callD (ok_law_same T) 0 (by simp) (fun _ _ => .nil) (hr.mono (by decide)) takesF (by rfl) T.m_law_same (sa_cons (se_methD (c := 2) (ok_Distances_count T) 0 (by simp) (fun _ _ => .nil) (hr.mono (by decide)) takesF (by exact T.m_Distances) T.cl_Distances T.me_Distances_count (by decide +kernel) (se_var (pv 0)) (sa_cons (se_var (pv 4)) sa_nil)) (sa_cons (se_callD (ok_law_many T) 0 (by simp) (fun _ _ => .nil) (hr.mono (by decide)) takesF (by rfl) T.m_law_many (sa_cons (se_var (pv 1)) (sa_cons (se_var (pv 4)) sa_nil))) sa_nil))) (fun _ => rfl))))) (fun _ _ _ _ _ => (se_var (pv 4))) (by intro _; rfl)) (se_lst sa_nil) (nomark _))))))
theorem sc_Plainest_end : FnScope ["self"] ["self"] (defScope s_Plainest_end) := ⟨rfl, rfl, rfl, by decide +kernel, rfl, by decide +kernel, by decide +kernel⟩
theorem ok_Plainest_end (T : Txt K mg) : DefOk P w K mg base 1 (ma K (ga K "Plainest") "end") ["self"] [] F_Plainest_end := by
  refine def_ok (N := ["self"]) (k := 0) (g := g_Plainest_end) T.d_Plainest_end sc_Plainest_end (fun _ _ _ _ _ _ us hl => match us, hl with | [_], _ => rfl) ?_
  intro cdv A outer s H E hr
  exact (ss_one (ss_ret (se_if (sb_cmp (op_neP hr.units) fits_ne (se_fld (c := 1) (i := 2) (by exact T.m_Plainest) T.cl_Plainest T.na_Plainest_flipped rfl (by decide +kernel) (se_var (pv 0))) (se_tup sa_nil) (nomark _)) (se_bin op_addA fits_add (se_ix (se_fld (c := 1) (i := 2) (by exact T.m_Plainest) T.cl_Plainest T.na_Plainest_flipped rfl (by decide +kernel) (se_var (pv 0))) (se_un un_neg fits_neg se_int) (fun _ _ => rfl)) se_int) se_int)))
theorem sc_Plainest_member : FnScope ["self", "number", "high", "low", "middle"] ["self", "number"] (defScope s_Plainest_member) := ⟨rfl, rfl, rfl, by decide +kernel, rfl, by decide +kernel, by decide +kernel⟩
theorem ok_Plainest_member (T : Txt K mg) : DefOk P w K mg base 2 (ma K (ga K "Plainest") "member") ["self", "number"] [] F_Plainest_member := by
  refine def_ok (N := ["self", "number", "high", "low", "middle"]) (k := 1) (g := g_Plainest_member) T.d_Plainest_member sc_Plainest_member (fun _ _ _ _ _ _ us hl => match us, hl with | [_, _], _ => rfl) ?_
  intro cdv A outer s H E hr
  exact (ss_cons (ss_set (i := 2) sc_Plainest_member.nd rfl (by first | exact Or.inl rfl | exact Or.inr rfl) (se_bin op_addA fits_add (se_meth0D (c := 1) (ok_Plainest_end T) 0 (by simp) (fun _ _ => .nil) (hr.mono (by decide)) (takes_of rfl rfl rfl rfl) (by exact T.m_Plainest) T.cl_Plainest T.me_Plainest_end (by decide +kernel) (se_var (pv 0))) (se_if (sb_cmp op_gt fits_cmpI (se_ix (se_fld (c := 1) (i := 3) (by exact T.m_Plainest) T.cl_Plainest T.na_Plainest_below rfl (by decide +kernel) (se_var (pv 0))) (se_un un_neg fits_neg se_int) (fun _ _ => rfl)) se_int (nomark _)) (se_bin op_mulW fits_mul (se_fld (c := 1) (i := 0) (by exact T.m_Plainest) T.cl_Plainest T.na_Plainest_period rfl (by decide +kernel) (se_var (pv 0))) (se_var (pv 1))) se_int))) (ss_cons (ss_if (sb_cmp op_lt fits_cmpI (se_methD (c := 1) (ok_Plainest_many T) 0 (by simp) (fun _ _ => .nil) (hr.mono (by decide)) (takes_of rfl rfl rfl rfl) (by exact T.m_Plainest) T.cl_Plainest T.me_Plainest_many (by decide +kernel) (se_var (pv 0)) (sa_cons (se_var (pv 2)) sa_nil)) (se_var (pv 1)) (nomark _)) (ss_one (ss_ret se_non)) ss_nil) (ss_cons (ss_set (i := 3) sc_Plainest_member.nd rfl (by first | exact Or.inl rfl | exact Or.inr rfl) se_int) (ss_cons (ss_while (passes_of rfl) (sb_cmp op_gt fits_cmpI (se_bin op_sub fits_sub (se_var (pv 2)) (se_var (pv 3))) se_int (nomark _)) (ss_cons (ss_set (i := 4) sc_Plainest_member.nd rfl (by first | exact Or.inl rfl | exact Or.inr rfl) (se_bin op_fdivA fits_div (se_bin op_addA fits_add (se_var (pv 3)) (se_var (pv 2))) se_int)) (ss_one (ss_if (sb_cmp op_lt fits_cmpI (se_methD (c := 1) (ok_Plainest_many T) 0 (by simp) (fun _ _ => .nil) (hr.mono (by decide)) (takes_of rfl rfl rfl rfl) (by exact T.m_Plainest) T.cl_Plainest T.me_Plainest_many (by decide +kernel) (se_var (pv 0)) (sa_cons (se_var (pv 4)) sa_nil)) (se_var (pv 1)) (nomark _)) (ss_one (ss_set (i := 3) sc_Plainest_member.nd rfl (by first | exact Or.inl rfl | exact Or.inr rfl) (se_var (pv 4)))) (ss_one (ss_set (i := 2) sc_Plainest_member.nd rfl (by first | exact Or.inl rfl | exact Or.inr rfl) (se_var (pv 4)))))))) (ss_one (ss_ret (se_var (pv 2))))))))
theorem sc_Distances_nth : FnScope ["self", "number"] ["self", "number"] (defScope s_Distances_nth) := ⟨rfl, rfl, rfl, by decide +kernel, rfl, by decide +kernel, by decide +kernel⟩
theorem ok_Distances_nth (T : Txt K mg) : DefOk P w K mg base 3 (ma K (ga K "Distances") "nth") ["self", "number"] [] F_Distances_nth := by
  refine def_ok (N := ["self", "number"]) (k := 2) (g := g_Distances_nth) T.d_Distances_nth sc_Distances_nth (fun _ _ _ _ _ _ us hl => match us, hl with | [_, _], _ => rfl) ?_
  intro cdv A outer s H E hr
  exact (ss_cons (ss_if (sb_w (sw_or (sb_not (sb_tru (se_callD (ok_is_whole T) 0 (by simp) (fun _ _ => .nil) (hr.mono (by decide)) (takes_of rfl rfl rfl rfl) (by rfl) T.m_is_whole (sa_cons (se_var (pv 1)) sa_nil)) (fun _ => rfl))) (sw_or1 (sb_cmp op_lt fits_cmpI (se_var (pv 1)) se_int (nomark _))))) (ss_one (ss_raise (ci := 7) (xown_ok rfl T.m_NoNumber T.x_NoNumber) rfl rfl (takes_of rfl rfl rfl rfl) (by rfl))) ss_nil) (ss_one (ss_ret (se_methD (c := 1) (ok_Plainest_member T) 0 (by simp) (fun _ _ => .nil) (hr.mono (by decide)) (takes_of rfl rfl rfl rfl) (by exact T.m_Plainest) T.cl_Plainest T.me_Plainest_member (by decide +kernel) (se_fld (c := 2) (i := 0) (by exact T.m_Distances) T.cl_Distances T.na_Distances_plain rfl (by decide +kernel) (se_var (pv 0))) (sa_cons (se_var (pv 1)) sa_nil)))))
theorem sc_law_numbered : FnScope ["_law_found", "_law_row_here", "_law_numbers", "_law_all_of", "_law_place", "_law_told"] ["_law_found", "_law_row_here", "_law_numbers"] (defScope s_law_numbered) := ⟨rfl, rfl, rfl, by decide +kernel, rfl, by decide +kernel, by decide +kernel⟩
theorem ok_law_numbered (T : Txt K mg) : DefOk P w K mg base 4 (ga K "_law_numbered") ["_law_found", "_law_row_here", "_law_numbers"] [] F_law_numbered := by
  refine def_ok (N := ["_law_found", "_law_row_here", "_law_numbers", "_law_all_of", "_law_place", "_law_told"]) (k := 3) (g := g_law_numbered) T.d_law_numbered sc_law_numbered (fun _ _ _ _ _ _ us hl => match us, hl with | [_, _, _], _ => rfl) ?_
  intro cdv A outer s H E hr
  exact (ss_cons (ss_set (i := 3) sc_law_numbered.nd rfl (by first | exact Or.inl rfl | exact Or.inr rfl) se_non) (ss_cons (ss_if (sb_cmp (op_eqP hr.units) fits_eq (se_ix (se_var (pv 1)) se_int (fun _ _ => rfl)) (se_tup sa_nil) (nomark _)) (ss_one (ss_set (i := 3) sc_law_numbered.nd rfl (by first | exact Or.inl rfl | exact Or.inr rfl) (se_callB call_lenA fits_len (by rfl) T.n_len (by decide +kernel) (sa_cons (se_ix (se_var (pv 1)) se_int (fun _ _ => rfl)) sa_nil)))) ss_nil) (ss_cons (ss_for (t := (.one 4)) (passes_of rfl) rfl (si_seq (se_var (pv 2))) (pg_name (i := 4) sc_law_numbered.nd rfl (by first | exact Or.inl rfl | exact Or.inr rfl)) (ss_cons (ss_set (i := 5) sc_law_numbered.nd rfl (by first | exact Or.inl rfl | exact Or.inr rfl) (se_methD (c := 2) (ok_Distances_nth T) 0 (by simp) (fun _ _ => .nil) (hr.mono (by decide)) (takes_of rfl rfl rfl rfl) (by exact T.m_Distances) T.cl_Distances T.me_Distances_nth (by decide +kernel) (se_var (pv 0)) (sa_cons (se_var (pv 4)) sa_nil))) (ss_one (ss_if (sb_w (sw_and (sb_cmp op_notN fits_notN (se_var (pv 3)) se_non (nomark _)) (sw_and1 (sb_cmp op_gt fits_cmpI (se_var (pv 4)) (se_var (pv 3)) (nomark _))))) (ss_one (ss_if (sb_cmp op_notN fits_notN (se_var (pv 5)) se_non (nomark _)) (ss_one (ss_ret se_bl)) ss_nil)) (ss_one (ss_if (sb_w (sw_or (sb_not (sb_tru (se_isi (by rfl) T.n_isinstance (se_var (pv 5)) (pe_bltn (v := .ty "int") (by rfl) T.n_int (by decide +kernel) rfl) (.ty _) tInt_ok trivial) (fun _ => rfl))) (sw_or (sb_tru (se_isi (by rfl) T.n_isinstance (se_var (pv 5)) (pe_bltn (v := .ty "bool") (by rfl) T.n_bool (by decide +kernel) rfl) (.ty _) tBool_ok trivial) (fun _ => rfl)) (sw_or1 (sb_cmp op_lt fits_cmpI (se_var (pv 5)) se_int (nomark _)))))) (ss_one (ss_ret se_bl)) (ss_one (ss_if (sb_w (sw_or (sb_not (sb_tru (se_callD (ok_law_is_in T) 0 (by simp) (fun _ _ => .nil) (hr.mono (by decide)) (takes_of rfl rfl rfl rfl) (by rfl) T.m_law_is_in (sa_cons (se_var (pv 1)) (sa_cons (se_var (pv 5)) sa_nil))) (fun _ => rfl))) (sw_or1 (sb_cmp (op_neP hr.units) fits_ne (se_callD (ok_law_many T) 0 (by simp) (fun _ _ => .nil) (hr.mono (by decide)) (takes_of rfl rfl rfl rfl) (by rfl) T.m_law_many (sa_cons (se_var (pv 1)) (sa_cons (se_var (pv 5)) sa_nil))) (se_var (pv 4)) (nomark _))))) (ss_one (ss_ret se_bl)) ss_nil)))))))) (ss_one (ss_ret se_bl)))))
theorem sc_Distances_invert : FnScope ["self", "flag"] ["self"] (defScope s_Distances_invert) := ⟨rfl, rfl, rfl, by decide +kernel, rfl, by decide +kernel, by decide +kernel⟩
theorem ok_Distances_invert (T : Txt K mg) : DefOk P w K mg base 8 (ma K (ga K "Distances") "__invert__") ["self"] [] F_Distances_invert := by
  refine def_ok (N := ["self", "flag"]) (k := 7) (g := g_Distances_invert) T.d_Distances_invert sc_Distances_invert (fun _ _ _ _ _ _ us hl => match us, hl with | [_], _ => rfl) ?_
  intro cdv A outer s H E hr
  exact (ss_one (ss_ret (se_makeD (ci := 2) (ok_Distances_init T) 1 (by simp) (fun _ _ => .cons (nil_ok T.nd_Distances_init_1 _ _) (.cons (nil_ok T.nd_Distances_init_2 _ _) (.nil))) (hr.mono (by decide)) (takes_of rfl rfl rfl rfl) (by exact T.m_Distances) T.mk_Distances (by rfl) T.m_Distances (sa_cons (se_makeD (ci := 1) (ok_Plainest_init T) 0 (by simp) (fun _ _ => .nil) (hr.mono (by decide)) (takes_of rfl rfl rfl rfl) (by exact T.m_Plainest) T.mk_Plainest (by rfl) T.m_Plainest (sa_cons (se_lc (own := [("flag", 1)]) (t := (.one 1)) rfl sc_Distances_invert.nd (si_seq (se_fld (c := 1) (i := 1) (by exact T.m_Plainest) T.cl_Plainest T.na_Plainest_flags rfl (by decide +kernel) (se_fld (c := 2) (i := 0) (by exact T.m_Distances) T.cl_Distances T.na_Distances_plain rfl (by decide +kernel) (se_var (pv 0))))) (blkOk_by (by rfl)) (by decide) (fun _ _ _ _ _ => (pg_name (i := 1) sc_Distances_invert.nd rfl (by first | exact Or.inl rfl | exact Or.inr rfl))) (fun _ _ _ _ _ => sts_nil) (fun _ _ _ _ _ => (se_not (se_var (pv 1)))) (by intro _; rfl)) (sa_cons (se_fld (c := 1) (i := 2) (by exact T.m_Plainest) T.cl_Plainest T.na_Plainest_flipped rfl (by decide +kernel) (se_fld (c := 2) (i := 0) (by exact T.m_Distances) T.cl_Distances T.na_Distances_plain rfl (by decide +kernel) (se_var (pv 0)))) sa_nil))) sa_nil))))
theorem sc_law_right : FnScope ["_law_well_here", "_law_row_here", "_law_found", "_law_asked", "_law_numbers", "_law_other", "_law_k", "_law_lap"] ["_law_well_here"] (defScope s_law_right) := ⟨rfl, rfl, rfl, by decide +kernel, rfl, by decide +kernel, by decide +kernel⟩
theorem ok_law_right (T : Txt K mg) : DefOk P w K mg base 11 (ga K "_law_right") ["_law_well_here"] [] F_law_right := by
  refine def_ok (N := ["_law_well_here", "_law_row_here", "_law_found", "_law_asked", "_law_numbers", "_law_other", "_law_k", "_law_lap"]) (k := 10) (g := g_law_right) T.d_law_right sc_law_right (fun _ _ _ _ _ _ us hl => match us, hl with | [_], _ => rfl) ?_
  intro cdv A outer s H E hr
  exact (ss_cons (ss_set (i := 1) sc_law_right.nd rfl (by first | exact Or.inl rfl | exact Or.inr rfl) (se_callD (ok_law_row T) 0 (by simp) (fun _ _ => .nil) (hr.mono (by decide)) (takes_of rfl rfl rfl rfl) (by rfl) T.m_law_row (sa_cons (se_var (pv 0)) (sa_cons (se_callD (ok_law_draw T) 0 (by simp) (fun _ _ => .nil) (hr.mono (by decide)) (takes_of rfl rfl rfl rfl) (by rfl) T.m_law_draw (sa_cons (se_var (pv 0)) (sa_cons se_int sa_nil))) (sa_cons se_int sa_nil))))) (ss_cons (ss_if (sb_cmp (op_eqP hr.units) fits_eq (se_callD (ok_law_draw T) 0 (by simp) (fun _ _ => .nil) (hr.mono (by decide)) (takes_of rfl rfl rfl rfl) (by rfl) T.m_law_draw (sa_cons (se_var (pv 0)) (sa_cons se_int sa_nil))) se_int (nomark _)) (ss_one (ss_set (i := 1) sc_law_right.nd rfl (by first | exact Or.inl rfl | exact Or.inr rfl) (se_tup (sa_cons (se_ix (se_var (pv 1)) se_int (fun _ _ => rfl)) (sa_cons (se_tup sa_nil) (sa_cons (se_ix (se_var (pv 1)) se_int (fun _ _ => rfl)) sa_nil)))))) ss_nil) (ss_cons (ss_par (i := 2) (j := 3) rfl sc_law_right.nd rfl rfl (by decide) rfl rfl (sa_cons (se_callD (ok_law_set T) 0 (by simp) (fun _ _ => .nil) (hr.mono (by decide)) (takes_of rfl rfl rfl rfl) (by rfl) T.m_law_set (sa_cons (se_var (pv 1)) sa_nil)) (sa_cons (se_bin op_addA fits_addL (se_callD (ok_law_probes T) 0 (by simp) (fun _ _ => .nil) (hr.mono (by decide)) (takes_of rfl rfl rfl rfl) (by rfl) T.m_law_probes (sa_cons (se_var (pv 0)) (sa_cons (se_lst (sa_cons (se_var (pv 1)) sa_nil)) sa_nil))) (se_lst (sa_cons (se_ix (se_var (pv 1)) se_int (fun _ _ => rfl)) (sa_cons (se_bin op_sub fits_sub (se_ix (se_var (pv 1)) se_int (fun _ _ => rfl)) se_int) (sa_cons (se_bin op_mulW fits_mul se_int (se_ix (se_var (pv 1)) se_int (fun _ _ => rfl))) sa_nil))))) sa_nil)) (by rfl)) (ss_cons (ss_set (i := 4) sc_law_right.nd rfl (by first | exact Or.inl rfl | exact Or.inr rfl) (se_bin op_addA fits_add (se_listRg2 rfl (by rfl) T.n_list (by rfl) T.n_range se_int se_int) (se_lst (sa_cons (se_bin op_addA fits_add se_int (se_callD (ok_law_draw T) 0 (by simp) (fun _ _ => .nil) (hr.mono (by decide)) (takes_of rfl rfl rfl rfl) (by rfl) T.m_law_draw (sa_cons (se_var (pv 0)) (sa_cons (se_bin op_powW fits_pow se_int se_int) sa_nil)))) (sa_cons (se_bin op_addA fits_add se_int (se_callD (ok_law_draw T) 0 (by simp) (fun _ _ => .nil) (hr.mono (by decide)) (takes_of rfl rfl rfl rfl) (by rfl) T.m_law_draw (sa_cons (se_var (pv 0)) (sa_cons se_int sa_nil)))) (sa_cons (se_bin op_addA fits_add (se_callB call_lenA fits_len (by rfl) T.n_len (by decide +kernel) (sa_cons (se_ix (se_var (pv 1)) se_int (fun _ _ => rfl)) sa_nil)) se_int) sa_nil)))))) (ss_cons (ss_set (i := 5) sc_law_right.nd rfl (by first | exact Or.inl rfl | exact Or.inr rfl) (se_tup (sa_cons (se_ix (se_var (pv 1)) se_int (fun _ _ => rfl)) (sa_cons (se_callTy call_tuple_of fits_tuple (by rfl) T.n_tuple (by decide +kernel) (sa_cons (se_lc (own := [("_law_k", 6)]) (t := (.one 6)) rfl sc_law_right.nd (si_range1 (by rfl) T.n_range (sa_cons (se_ix (se_var (pv 1)) se_int (fun _ _ => rfl)) sa_nil)) (blkOk_by (by rfl)) (by decide) (fun _ _ _ _ _ => (pg_name (i := 6) sc_law_right.nd rfl (by first | exact Or.inl rfl | exact Or.inr rfl))) (fun _ _ _ _ _ => (sts_one (sb_cmp op_notIn_seq fits_inL (se_var (pv 6)) (se_ix (se_var (pv 1)) se_int (fun _ _ => rfl)) (by rfl)))) (fun _ _ _ _ _ => (se_var (pv 6))) (by intro _; rfl)) sa_nil)) (sa_cons (se_ix (se_var (pv 1)) se_int (fun _ _ => rfl)) sa_nil))))) (ss_cons (ss_for (t := (.one 7)) (passes_of rfl) rfl (si_range1 (by rfl) T.n_range (sa_cons se_int sa_nil)) (pg_name (i := 7) sc_law_right.nd rfl (by first | exact Or.inl rfl | exact Or.inr rfl)) (ss_cons (ss_if (sb_w (sw_or (sb_not (sb_tru (se_callD (ok_law_counted T) 0 (by simp) (fun _ _ => .nil) (hr.mono (by decide)) (takes_of rfl rfl rfl rfl) (by rfl) T.m_law_counted (sa_cons (se_var (pv 2)) (sa_cons (se_var (pv 1)) (sa_cons (se_var (pv 3)) sa_nil)))) (fun _ => rfl))) (sw_or1 (sb_not (sb_tru (se_callD (ok_law_numbered T) 0 (by simp) (fun _ _ => .nil) (hr.mono (by decide)) (takes_of rfl rfl rfl rfl) (by rfl) T.m_law_numbered (sa_cons (se_var (pv 2)) (sa_cons (se_var (pv 1)) (sa_cons (se_var (pv 4)) sa_nil)))) (fun _ => rfl)))))) (ss_one (ss_ret se_bl)) ss_nil) (ss_one (ss_par (i := 3) (j := 4) rfl sc_law_right.nd rfl rfl (by decide) rfl rfl (sa_cons (se_rev (se_var (pv 3))) (sa_cons (se_rev (se_var (pv 4))) sa_nil)) (by rfl))))) (ss_cons (ss_if (sb_w (sw_or (sb_cmp (op_neP hr.units) fits_ne (se_methD (c := 2) (ok_Distances_count T) 0 (by simp) (fun _ _ => .nil) (hr.mono (by decide)) (takes_of rfl rfl rfl rfl) (by exact T.m_Distances) T.cl_Distances T.me_Distances_count (by decide +kernel) (se_var (pv 2)) (sa_cons (se_ix (se_var (pv 3)) se_int (fun _ _ => rfl)) sa_nil)) (se_callD (ok_law_many T) 0 (by simp) (fun _ _ => .nil) (hr.mono (by decide)) (takes_of rfl rfl rfl rfl) (by rfl) T.m_law_many (sa_cons (se_var (pv 1)) (sa_cons (se_ix (se_var (pv 3)) se_int (fun _ _ => rfl)) sa_nil))) (nomark _)) (sw_or1 (sb_cmp (op_neP hr.units) fits_ne (se_methK (c := 2) (ps := ["self", "number"]) (ks := ["number"]) ((ok_Distances_nth T).kw (n := 1) (ks := ["number"]) (arr := [(0, 0), (2, 0)]) T.d_Distances_nth (fun _ _ _ _ _ _ us ws h1 h2 => match us, ws, h1, h2 with | [_], [_], _, _ => rfl)) (fun _ _ => .nil) (hr.mono (by decide)) (takes_of rfl rfl rfl rfl) (by exact T.m_Distances) T.cl_Distances T.me_Distances_nth (by decide +kernel) (se_var (pv 2)) (sk_cons se_int sk_nil)) (se_methD (c := 2) (ok_Distances_nth T) 0 (by simp) (fun _ _ => .nil) (hr.mono (by decide)) (takes_of rfl rfl rfl rfl) (by exact T.m_Distances) T.cl_Distances T.me_Distances_nth (by decide +kernel) (se_var (pv 2)) (sa_cons se_int sa_nil)) (nomark _))))) (ss_one (ss_ret se_bl)) ss_nil) (ss_one (ss_ret (se_and (se_callD (ok_law_counted T) 0 (by simp) (fun _ _ => .nil) (hr.mono (by decide)) (takes_of rfl rfl rfl rfl) (by rfl) T.m_law_counted (sa_cons (se_unS (UnS.inv (c := 2) (ok_Distances_invert T) (hr.mono (by decide)) (takes_of rfl rfl rfl rfl) (by exact T.m_Distances) T.me_Distances_invert uBad_ok) (se_var (pv 2))) (sa_cons (se_var (pv 5)) (sa_cons (se_var (pv 3)) sa_nil)))) (se_one (se_callD (ok_law_numbered T) 0 (by simp) (fun _ _ => .nil) (hr.mono (by decide)) (takes_of rfl rfl rfl rfl) (by rfl) T.m_law_numbered (sa_cons (se_unS (UnS.inv (c := 2) (ok_Distances_invert T) (hr.mono (by decide)) (takes_of rfl rfl rfl rfl) (by exact T.m_Distances) T.me_Distances_invert uBad_ok) (se_var (pv 2))) (sa_cons (se_var (pv 5)) (sa_cons (se_var (pv 4)) sa_nil)))))))))))))))
theorem sc_law_well : FnScope ["_law_script", "_law_k", "_law_cell"] ["_law_script", "_law_k"] (defScope s_law_well) := ⟨rfl, rfl, rfl, by decide +kernel, rfl, by decide +kernel, by decide +kernel⟩
theorem ok_law_well (T : Txt K mg) : DefOk P w K mg base 1 (ga K "_law_well") ["_law_script", "_law_k"] [] F_law_well := by
  refine def_ok (N := ["_law_script", "_law_k", "_law_cell"]) (k := 0) (g := g_law_well) T.d_law_well sc_law_well (fun _ _ _ _ _ _ us hl => match us, hl with | [_, _], _ => rfl) ?_
  intro cdv A outer s H E hr
  exact (ss_cons (ss_set (i := 2) sc_law_well.nd rfl (by first | exact Or.inl rfl | exact Or.inr rfl) se_int) (ss_cons (ss_if (sb_cmp op_lt fits_cmpI (se_var (pv 1)) (se_callB call_lenA fits_len (by rfl) T.n_len (by decide +kernel) (sa_cons (se_var (pv 0)) sa_nil)) (nomark _)) (ss_one (ss_set (i := 2) sc_law_well.nd rfl (by first | exact Or.inl rfl | exact Or.inr rfl) (se_callTy call_int1 fits_int (by rfl) T.n_int (by decide +kernel) (sa_cons (se_ix (se_var (pv 0)) (se_var (pv 1)) (fun _ _ => rfl)) sa_nil)))) ss_nil) (ss_one (ss_ret (se_new (sa_cons (se_callB (call_max2 rfl) fits_max (by rfl) T.n_max (by decide +kernel) (sa_cons se_int (sa_cons (se_bin op_sub fits_sub (se_callB call_abs fits_abs (by rfl) T.n_abs (by decide +kernel) (sa_cons (se_var (pv 2)) sa_nil)) (se_bin op_powW fits_pow se_int se_int)) sa_nil))) (sa_cons (se_bin op_addA fits_add (se_bin op_modN fits_mod (se_callTy call_int1 fits_int (by rfl) T.n_int (by decide +kernel) (sa_cons (se_var (pv 2)) sa_nil)) (se_bin op_addA fits_add (se_bin op_powW fits_pow se_int se_int) se_int)) (se_bin op_mulW fits_mul se_int (se_var (pv 1)))) (sa_cons se_int sa_nil))))))))
theorem sc_law : FnScope ["_law_script", "_law_k"] ["_law_script"] (defScope s_law) := ⟨rfl, rfl, rfl, by decide +kernel, rfl, by decide +kernel, by decide +kernel⟩
theorem bd_law (T : Txt K mg) : BodyOk P w K mg base ["_law_script", "_law_k"] "law" s_law (ga K "law") 11 g_law := by
  intro cdv A outer s H E hr
  exact (ss_cons (ss_for (t := (.one 1)) (passes_of rfl) rfl (si_range1 (by rfl) T.n_range (sa_cons (se_callB (call_max2 rfl) fits_max (by rfl) T.n_max (by decide +kernel) (sa_cons se_int (sa_cons (se_callB (call_min2 rfl) fits_min (by rfl) T.n_min (by decide +kernel) (sa_cons se_int (sa_cons (se_callB call_lenA fits_len (by rfl) T.n_len (by decide +kernel) (sa_cons (se_var (pv 0)) sa_nil)) sa_nil))) sa_nil))) sa_nil)) (pg_name (i := 1) sc_law.nd rfl (by first | exact Or.inl rfl | exact Or.inr rfl)) (ss_one (ss_if (sb_not (sb_tru (se_callD (ok_law_right T) 0 (by simp) (fun _ _ => .nil) (hr.mono (by decide)) (takes_of rfl rfl rfl rfl) (by rfl) T.m_law_right (sa_cons (se_callD (ok_law_well T) 0 (by simp) (fun _ _ => .nil) (hr.mono (by decide)) (takes_of rfl rfl rfl rfl) (by rfl) T.m_law_well (sa_cons (se_var (pv 0)) (sa_cons (se_var (pv 1)) sa_nil))) sa_nil)) (fun _ => rfl))) (ss_one (ss_ret se_bl)) ss_nil))) (ss_one (ss_ret se_bl)))
end

def dd_law_draw : DefD := ⟨("_law_draw", none), "_law_draw", "_law_draw", defArgs s_law_draw, defBody s_law_draw, defScope s_law_draw, [], []⟩
def dd_law_modulus : DefD := ⟨("_law_modulus", none), "_law_modulus", "_law_modulus", defArgs s_law_modulus, defBody s_law_modulus, defScope s_law_modulus, [], []⟩
def dd_law_classes : DefD := ⟨("_law_classes", none), "_law_classes", "_law_classes", defArgs s_law_classes, defBody s_law_classes, defScope s_law_classes, [], []⟩
def dd_law_changed : DefD := ⟨("_law_changed", none), "_law_changed", "_law_changed", defArgs s_law_changed, defBody s_law_changed, defScope s_law_changed, [], []⟩
def dd_law_row : DefD := ⟨("_law_row", none), "_law_row", "_law_row", defArgs s_law_row, defBody s_law_row, defScope s_law_row, [], []⟩
def dd_is_whole : DefD := ⟨("is_whole", none), "is_whole", "is_whole", defArgs s_is_whole, defBody s_is_whole, defScope s_is_whole, [], []⟩
def dd_prime_divisors : DefD := ⟨("prime_divisors", none), "prime_divisors", "prime_divisors", defArgs s_prime_divisors, defBody s_prime_divisors, defScope s_prime_divisors, [], []⟩
def dd_is_periodic : DefD := ⟨("is_periodic", none), "is_periodic", "is_periodic", defArgs s_is_periodic, defBody s_is_periodic, defScope s_is_periodic, [], []⟩
def dd_least_period : DefD := ⟨("least_period", none), "least_period", "least_period", defArgs s_least_period, defBody s_least_period, defScope s_least_period, [], []⟩
def dd_sums_of : DefD := ⟨("sums_of", none), "sums_of", "sums_of", defArgs s_sums_of, defBody s_sums_of, defScope s_sums_of, [], []⟩
def dd_Plainest_init : DefD := ⟨("Plainest", some "__init__"), "__init__", "Plainest.__init__", defArgs s_Plainest_init, defBody s_Plainest_init, defScope s_Plainest_init, [], []⟩
def dd_checked : DefD := ⟨("checked", none), "checked", "checked", defArgs s_checked, defBody s_checked, defScope s_checked, [], []⟩
def dd_Distances_init : DefD := ⟨("Distances", some "__init__"), "__init__", "Distances.__init__", defArgs s_Distances_init, defBody s_Distances_init, defScope s_Distances_init, [.int 1, .adr (dflAt ("Distances", some "__init__") 1), .adr (dflAt ("Distances", some "__init__") 2)], []⟩
def dd_law_set : DefD := ⟨("_law_set", none), "_law_set", "_law_set", defArgs s_law_set, defBody s_law_set, defScope s_law_set, [], []⟩
def dd_law_probes : DefD := ⟨("_law_probes", none), "_law_probes", "_law_probes", defArgs s_law_probes, defBody s_law_probes, defScope s_law_probes, [], []⟩
def dd_law_is_in : DefD := ⟨("_law_is_in", none), "_law_is_in", "_law_is_in", defArgs s_law_is_in, defBody s_law_is_in, defScope s_law_is_in, [], []⟩
def dd_law_same : DefD := ⟨("_law_same", none), "_law_same", "_law_same", defArgs s_law_same, defBody s_law_same, defScope s_law_same, [], []⟩
def dd_Plainest_many : DefD := ⟨("Plainest", some "many"), "many", "Plainest.many", defArgs s_Plainest_many, defBody s_Plainest_many, defScope s_Plainest_many, [], []⟩
def dd_Distances_count : DefD := ⟨("Distances", some "count"), "count", "Distances.count", defArgs s_Distances_count, defBody s_Distances_count, defScope s_Distances_count, [], []⟩
def dd_law_many : DefD := ⟨("_law_many", none), "_law_many", "_law_many", defArgs s_law_many, defBody s_law_many, defScope s_law_many, [], []⟩
def dd_law_counted : DefD := ⟨("_law_counted", none), "_law_counted", "_law_counted", defArgs s_law_counted, defBody s_law_counted, defScope s_law_counted, [], []⟩
def dd_Plainest_end : DefD := ⟨("Plainest", some "end"), "end", "Plainest.end", defArgs s_Plainest_end, defBody s_Plainest_end, defScope s_Plainest_end, [], []⟩
def dd_Plainest_member : DefD := ⟨("Plainest", some "member"), "member", "Plainest.member", defArgs s_Plainest_member, defBody s_Plainest_member, defScope s_Plainest_member, [], []⟩
def dd_Distances_nth : DefD := ⟨("Distances", some "nth"), "nth", "Distances.nth", defArgs s_Distances_nth, defBody s_Distances_nth, defScope s_Distances_nth, [], []⟩
def dd_law_numbered : DefD := ⟨("_law_numbered", none), "_law_numbered", "_law_numbered", defArgs s_law_numbered, defBody s_law_numbered, defScope s_law_numbered, [], []⟩
def dd_Distances_invert : DefD := ⟨("Distances", some "__invert__"), "__invert__", "Distances.__invert__", defArgs s_Distances_invert, defBody s_Distances_invert, defScope s_Distances_invert, [], []⟩
def dd_law_right : DefD := ⟨("_law_right", none), "_law_right", "_law_right", defArgs s_law_right, defBody s_law_right, defScope s_law_right, [], []⟩
def dd_law_well : DefD := ⟨("_law_well", none), "_law_well", "_law_well", defArgs s_law_well, defBody s_law_well, defScope s_law_well, [], []⟩
def dd_law : DefD := ⟨("law", none), "law", "law", defArgs s_law, defBody s_law, defScope s_law, [], []⟩
def fn : List DefD := [dd_law_draw, dd_law_modulus, dd_law_classes, dd_law_changed, dd_law_row, dd_is_whole, dd_prime_divisors, dd_is_periodic, dd_least_period, dd_sums_of, dd_Plainest_init, dd_checked, dd_Distances_init, dd_law_set, dd_law_probes, dd_law_is_in, dd_law_same, dd_Plainest_many, dd_Distances_count, dd_law_many, dd_law_counted, dd_Plainest_end, dd_Plainest_member, dd_Distances_nth, dd_law_numbered, dd_Distances_invert, dd_law_right, dd_law_well, dd_law]
def fx : List (PySem.W.Frag → Bool) := [bFree "len", bFree "min", bFree "max", bFree "range", bFree "int", bGlo "_law_draw", bGlo "_law_modulus", bFree "tuple", bGlo "_law_classes", bGlo "_law_changed", bGlo "_law_row", bGlo "Plainest", bOwn "Plainest", bKit "Plainest" "Plainest" true, bInsC "Plainest", bCls "Plainest", bFree "isinstance", bKitU "Plainest" "int" false, bFree "bool", bKitU "Plainest" "bool" false, bGlo "is_whole", fun K => (Fa.int "MOST_MODULUS" (720)).ok K, bGlo "NoModulus", bExc "NoModulus", bFree "all", bGlo "NoClasses", bExc "NoClasses", bFree "set", bGlo "NoChanged", bExc "NoChanged", bGlo "prime_divisors", bGlo "is_periodic", bGlo "least_period", bNoat "Plainest" "period", bNoat "Plainest" "flags", bNoat "Plainest" "flipped", bGlo "sums_of", bNoat "Plainest" "below", bFree "sorted", bMkr "Plainest", bGlo "checked", bGlo "Distances", bCls "Distances", bNoat "Distances" "plain", nilB (dflAt ("Distances", some "__init__") 1), nilB (dflAt ("Distances", some "__init__") 2), bMkr "Distances", bGlo "_law_set", bFree "list", bGlo "_law_probes", bGlo "_law_is_in", bGlo "_law_same", bFree "str", bGlo "NoLimit", bExc "NoLimit", bFree "divmod", bMeth "Plainest" "many", bMeth "Distances" "count", bGlo "_law_many", bGlo "_law_counted", bGlo "NoNumber", bExc "NoNumber", bMeth "Plainest" "end", bMeth "Plainest" "member", bMeth "Distances" "nth", bGlo "_law_numbered", bMeth "Distances" "__invert__", bFree "abs", bGlo "_law_well", bGlo "_law_right", bGlo "law"]
theorem txt {K : PySem.W.Frag} {h : Heap} {mg : Str → Option Value} (KX : K.In h) (G : h.Ns mainGlobals mg) (c : obsS fx fn K = valS fn) : Txt K mg where
  n_len := free_ok KX G (sFact c 0)
  n_min := free_ok KX G (sFact c 1)
  n_max := free_ok KX G (sFact c 2)
  n_range := free_ok KX G (sFact c 3)
  n_int := free_ok KX G (sFact c 4)
  d_law_draw := sDef c 0 (d := dd_law_draw) rfl
  m_law_draw := glo_ok KX G (sFact c 5)
  d_law_modulus := sDef c 1 (d := dd_law_modulus) rfl
  m_law_modulus := glo_ok KX G (sFact c 6)
  n_tuple := free_ok KX G (sFact c 7)
  d_law_classes := sDef c 2 (d := dd_law_classes) rfl
  m_law_classes := glo_ok KX G (sFact c 8)
  d_law_changed := sDef c 3 (d := dd_law_changed) rfl
  m_law_changed := glo_ok KX G (sFact c 9)
  d_law_row := sDef c 4 (d := dd_law_row) rfl
  m_law_row := glo_ok KX G (sFact c 10)
  m_Plainest := glo_ok KX G (sFact c 11)
  ow_Plainest := sFact c 12
  ki_Plainest_Plainest := kit_ok (sFact c 13)
  cl_Plainest := cls_ok (sFact c 15)
  ic_Plainest := insC_ok (cls_ok (sFact c 15)) (sFact c 14)
  n_isinstance := free_ok KX G (sFact c 16)
  ku_Plainest_int := kitU_ok (sFact c 17)
  n_bool := free_ok KX G (sFact c 18)
  ku_Plainest_bool := kitU_ok (sFact c 19)
  d_is_whole := sDef c 5 (d := dd_is_whole) rfl
  m_is_whole := glo_ok KX G (sFact c 20)
  g_MOST_MODULUS := int_ok KX G (sFact c 21)
  m_NoModulus := glo_ok KX G (sFact c 22)
  x_NoModulus := sFact c 23
  n_all := free_ok KX G (sFact c 24)
  m_NoClasses := glo_ok KX G (sFact c 25)
  x_NoClasses := sFact c 26
  n_set := free_ok KX G (sFact c 27)
  m_NoChanged := glo_ok KX G (sFact c 28)
  x_NoChanged := sFact c 29
  d_prime_divisors := sDef c 6 (d := dd_prime_divisors) rfl
  m_prime_divisors := glo_ok KX G (sFact c 30)
  d_is_periodic := sDef c 7 (d := dd_is_periodic) rfl
  m_is_periodic := glo_ok KX G (sFact c 31)
  d_least_period := sDef c 8 (d := dd_least_period) rfl
  m_least_period := glo_ok KX G (sFact c 32)
  na_Plainest_period := noat_ok (sFact c 33)
  na_Plainest_flags := noat_ok (sFact c 34)
  na_Plainest_flipped := noat_ok (sFact c 35)
  d_sums_of := sDef c 9 (d := dd_sums_of) rfl
  m_sums_of := glo_ok KX G (sFact c 36)
  na_Plainest_below := noat_ok (sFact c 37)
  d_Plainest_init := sDef c 10 (d := dd_Plainest_init) rfl
  n_sorted := free_ok KX G (sFact c 38)
  mk_Plainest := mkr_ok (sFact c 39)
  d_checked := sDef c 11 (d := dd_checked) rfl
  m_checked := glo_ok KX G (sFact c 40)
  m_Distances := glo_ok KX G (sFact c 41)
  cl_Distances := cls_ok (sFact c 42)
  na_Distances_plain := noat_ok (sFact c 43)
  nd_Distances_init_1 := sFact c 44
  nd_Distances_init_2 := sFact c 45
  d_Distances_init := sDef c 12 (d := dd_Distances_init) rfl
  mk_Distances := mkr_ok (sFact c 46)
  d_law_set := sDef c 13 (d := dd_law_set) rfl
  m_law_set := glo_ok KX G (sFact c 47)
  n_list := free_ok KX G (sFact c 48)
  d_law_probes := sDef c 14 (d := dd_law_probes) rfl
  m_law_probes := glo_ok KX G (sFact c 49)
  d_law_is_in := sDef c 15 (d := dd_law_is_in) rfl
  m_law_is_in := glo_ok KX G (sFact c 50)
  m_law_same := glo_ok KX G (sFact c 51)
  n_str := free_ok KX G (sFact c 52)
  d_law_same := sDef c 16 (d := dd_law_same) rfl
  m_NoLimit := glo_ok KX G (sFact c 53)
  x_NoLimit := sFact c 54
  n_divmod := free_ok KX G (sFact c 55)
  d_Plainest_many := sDef c 17 (d := dd_Plainest_many) rfl
  me_Plainest_many := meth_ok (sFact c 56)
  d_Distances_count := sDef c 18 (d := dd_Distances_count) rfl
  me_Distances_count := meth_ok (sFact c 57)
  d_law_many := sDef c 19 (d := dd_law_many) rfl
  m_law_many := glo_ok KX G (sFact c 58)
  d_law_counted := sDef c 20 (d := dd_law_counted) rfl
  m_law_counted := glo_ok KX G (sFact c 59)
  m_NoNumber := glo_ok KX G (sFact c 60)
  x_NoNumber := sFact c 61
  d_Plainest_end := sDef c 21 (d := dd_Plainest_end) rfl
  me_Plainest_end := meth_ok (sFact c 62)
  d_Plainest_member := sDef c 22 (d := dd_Plainest_member) rfl
  me_Plainest_member := meth_ok (sFact c 63)
  d_Distances_nth := sDef c 23 (d := dd_Distances_nth) rfl
  me_Distances_nth := meth_ok (sFact c 64)
  d_law_numbered := sDef c 24 (d := dd_law_numbered) rfl
  m_law_numbered := glo_ok KX G (sFact c 65)
  d_Distances_invert := sDef c 25 (d := dd_Distances_invert) rfl
  me_Distances_invert := meth_ok (sFact c 66)
  d_law_right := sDef c 26 (d := dd_law_right) rfl
  n_abs := free_ok KX G (sFact c 67)
  d_law_well := sDef c 27 (d := dd_law_well) rfl
  m_law_well := glo_ok KX G (sFact c 68)
  m_law_right := glo_ok KX G (sFact c 69)
  d_law := sDef c 28 (d := dd_law) rfl
  m_law := glo_ok KX G (sFact c 70)
end Law
namespace Law
open PySem PySem.Spec PyProof.Rows L2 Sh He
def loose0 : List Str := ["_wall", "LineError", "NoModulus", "NoClasses", "NoChanged", "NoLimit", "NoNumber", "is_whole", "common_divisor", "common_multiple", "MOST_MODULUS", "UNION", "COMMON", "WITHOUT", "IN_ONE", "prime_divisors", "is_periodic", "least_period", "sums_of", "Plainest"]
def loose1 : List Str := ["checked", "joined", "Distances", "_law_well", "_law_draw", "_law_modulus", "_law_classes", "_law_changed", "_law_row", "_law_is_in", "_law_probes", "_law_same", "_law_set", "_law_many", "_law_counted", "_law_numbered", "_law_right"]
def loose : List Str := loose0 ++ loose1
abbrev R : PySem.W.OpenRow := PySem.W.OpenLaw.row PySem.Challenge.rw_roundline_k07_counted_and_told_by_number
abbrev hk : PySem.W.Hook := hookS 5 fx fn
def ob (s : PySem.W.SharedT) : AlS := obsSG 5 fx fn (HandSHeadRun.getT s)
theorem ob_eq (s : PySem.W.SharedT) : ob s = hk.obs s.abs := obsSG_eq (HandSHeadRun.getT_eq s)
theorem run (w : World) : HandSHeadRun.RunEq R (PySem.W.view R.prog [42]) hk ob 4000 loose w := by
  intro os
  kernel_rfl
end Law
open PySem PySem.W PySem.Calls PyProof.Rows
theorem PySem.Challenge.cw_roundline_k07_counted_and_told_by_number_holds : PySem.Challenge.rw_roundline_k07_counted_and_told_by_number.Holds := by
  w_on; o_law
  refine HandSHeadRun.head_any (r := OpenLaw.row PySem.Challenge.rw_roundline_k07_counted_and_told_by_number) (q := view (OpenLaw.row PySem.Challenge.rw_roundline_k07_counted_and_told_by_number).prog [42]) (H := Law.hk) (ob := Law.ob) (M := 4000) (loose := Law.loose) (d := HandSHeadRun.topDef (OpenLaw.row PySem.Challenge.rw_roundline_k07_counted_and_told_by_number).prog 42) (kwd := []) Law.ob_eq
    (by kernel_rfl) (fun s => by kernel_rfl) Law.run (by kernel_rfl) (by kernel_rfl) (by kernel_rfl) (by rfl) (by first | assumption | decide +kernel) (by decide +kernel) ⟨rfl, rfl, rfl, rfl, rfl, by decide +kernel⟩ ?hw ?hc
  case hw => w_witness2
  case hc =>
    refine L2.walk_ofE (l := PySem.Challenge.rw_roundline_k07_counted_and_told_by_number) (n := 63) (k := 12) (x := "_law_script") (CX := L2.CX0) rfl (by decide) (by kernel_rfl) ⟨rfl, by decide, by decide⟩ ?F (fun _ _ _ _ z => z)
    intro w mg fa h Y G hmg0
    obtain ⟨K, KX, c⟩ := Y
    have T : Law.Txt K mg := Law.txt KX G c
    have hmg : mg ("law" : PySem.Str) = some (.ref fa) := by
      have e : (HandSHeadRun.topDef (OpenLaw.row PySem.Challenge.rw_roundline_k07_counted_and_told_by_number).prog 42).name = ("law" : PySem.Str) := by kernel_rfl
      rw [← e]
      exact hmg0
    have e := hmg.symm.trans T.m_law
    cases e
    obtain ⟨fd, hb, hF⟩ := Sh.law_facts (P := (PySem.Challenge.rw_roundline_k07_counted_and_told_by_number).prog) (w := w) (mg := mg) T.d_law Law.sc_law (fun base => Law.bd_law T) Law.law_true (fun _ _ _ _ _ _ us hl => match us, hl with | [_], _ => rfl)
    exact ⟨K, fd, Sh.spLaw K, KX, hb, fun H a ns hl _ hS => ⟨a, ns, rfl, hS, hl, fun _ => rfl⟩, fun base _ _ => hF base⟩
