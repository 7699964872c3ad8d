import PyProof.Rows.All
import Wide.All
import OpenK.AllK
import Wide.FinOn
import HandS.ForMost
import HandS.Exc
import HandS.TryOnly
import HandS.TryMany
import HandS.ExcOwn
import HandS.WordsExc
import HandS.IsInst
import HandS.Flow
import HandS.Wide
import HandS.TupAny
import KE.DataEq
import HandS.CallSlots
import HandS.Defaults
import HandS.SortInts
import HandS.Style
import HandS.ExcIs
import HandS.ExcField
import HandS.ExcInit
import HandS.Head0
import HandS.Head1
import HandS.Head2
import HandS.HeadEnd
import HandS.HeadHook1
import HandS.HeadHook2
import HandS.Head3
import KE.KStateDown
import KE.KOpsOwn
import HandS.SlotsOwn
import HandS.Star
import HandS.RaiseMore
import HandS.FStr
import HandS.Zip
import KE.GoesEnum
import HandS.TupMul
import OpenK.KMeth
import HandS.NoneIn
import HandS.Small
import HandS.Iter
import KE.DatumOrd
import HandS.SortKw
import KE.SortData
import HandS.Strs
import PyProof.TupleOfSeq
import KE.KItemsList
import HandS.DictTup
import HandS.Text
import HandS.List
import HandS.Conv
import PyProof.DictValues
import PyProof.DictWalks
import PyProof.DictItemsLoops
import PyProof.SeqRoads
import HandS.SetFor
import HandS.Property
import KE.KDictSum
import HandS.DictComp
import PyProof.StrOps2
import PyProof.FitsStr
import HandS.ListEq
import HandS.DeepEq
import KE.KEqNest
import HandS.WideBits
import PyProof.EqKinds
import PyProof.NeKinds
import PySem.Challenge.RW_roundline_k80_plans_at_the_desk
set_option Elab.async false
set_option linter.all false
set_option maxRecDepth 100000
set_option maxHeartbeats 4000000
set_option exponentiation.threshold 5000
/-! Sh: a program as a plain Lean function over data by value and a store of what may change. Part A: data, store, worlds. -/
namespace Sh
open PySem L2

/-- the program's classes by number: name, attributes in the order in which they are first stored -/
def ctab : List (Str × List Str) := [("Form", ["row"]), ("Plainest", ["period", "flags", "flipped", "below"]), ("Distances", ["plain"]), ("Plan", ["kept"]), ("LineWork", ["half", "stand", "hung", "lengths"]),
  ("Story", ["remainder", "stand", "hung"]), ("Line", ["length", "work", "done", "earlier", "marks"]), ("Desk", ["sheet", "shelf", "past"])]
def cName (c : Nat) : Str := (ctab.getD c ("", [])).1
def cFlds (c : Nat) : List Str := (ctab.getD c ("", [])).2
/-- the errors by number: name, the field -/
def xtab : List (Str × Str) := [("LineError", ""), ("NoForm", ""), ("NoDistance", ""), ("NoModulus", ""), ("NoClasses", ""), ("NoChanged", ""), ("NoLimit", ""), ("NoNumber", ""), ("NoTold", ""), ("NoWindow", ""), ("NoThing", ""),
  ("TooLong", ""), ("NoPlans", ""), ("NotFinite", ""), ("NothingToUndo", ""), ("NoName", ""), ("NoOrder", ""), ("NoRoom", ""), ("NotWhole", "number"), ("NoDeed", "index"), ("NoSighting", "index"), ("NoMark", "name"), ("NoText", "line")]
def xName (c : Nat) : Str := (xtab.getD c ("", "")).1
def xFld (c : Nat) : Str := (xtab.getD c ("", "")).2

/-- data by value; loc: the n-th thing of the store; scr: the script -/
inductive D where
  | non | bl (b : Bool) | int (i : Int) | str (x : Str)
  | tup (l : List D) | lst (l : List D)
  | ins (c : Nat) (l : List D)
  | loc (n : Nat)
  | scr (l : List Int)
  | edict
  deriving Inhabited
/-- what may change -/
inductive SO where
  | lst (l : List D)
  | dict (l : List (Key × D))
  | ins (c : Nat) (l : List D)
  | lock (l : List (Key × D)) (o : Obj) (kvs : List (Key × V))
abbrev Sto := List SO
abbrev Sg := List (Option D)
/-- a result: a value, an exception (its class, its fields), or nothing that is known -/
inductive Res (α : Type) where
  | ok (a : α) (st : Sto)
  | exc (c : Nat) (o : Option D) (st : Sto)
  | bad
inductive Flw where
  | nx (sg : Sg) (st : Sto)
  | ret (d : D) (st : Sto)
  | brk (sg : Sg) (st : Sto)
  | cnt (sg : Sg) (st : Sto)
  | exc (c : Nat) (o : Option D) (sg : Sg) (st : Sto)
  | bad
abbrev EF := Sg → Sto → Res D
abbrev TF := Sg → Sto → Res Bool
abbrev AF := Sg → Sto → Res (List D)
abbrev SF := Sg → Sto → Flw
abbrev FF := List D → Sto → Res D
def Res.bind {α β : Type} : Res α → (α → Sto → Res β) → Res β
  | .ok a st, k => k a st
  | .exc c fs st, _ => .exc c fs st
  | .bad, _ => .bad
@[simp] theorem Res.bind_ok {α β : Type} (a : α) (st : Sto) (k : α → Sto → Res β) : (Res.ok a st).bind k = k a st := rfl
@[simp] theorem Res.bind_exc {α β : Type} (c : Nat) (o : Option D) (st : Sto) (k : α → Sto → Res β) : (Res.exc c o st : Res α).bind k = .exc c o st := rfl
@[simp] theorem Res.bind_bad {α β : Type} (k : α → Sto → Res β) : (Res.bad : Res α).bind k = .bad := rfl
theorem Res.bind_cg {α β : Type} {x y : Res α} {k : α → Sto → Res β} (h : x = y) : x.bind k = y.bind k := by rw [h]

/-- a world: where the store's things lie, what is frozen, the heap -/
structure Hw where
  r : List Addr
  g : Hp
  h : Hp

section
variable (K : PySem.W.Frag) (mg : Str → Option Value)
mutual
inductive Rep (r : List Addr) (G : Hp) : D → V → Prop
  | non : Rep r G .non .non
  | bl (b : Bool) : Rep r G (.bl b) (.bl b)
  | int (i : Int) : Rep r G (.int i) (.int i)
  | str (x : Str) : Rep r G (.str x) (.str x)
  | tup {l : List D} {vs : List V} {a : Addr} : SqT K G a vs → Reps r G l vs → Rep r G (.tup l) (.ref a)
  | lst {l : List D} {vs : List V} {a : Addr} : G a = some (.lst vs) → Reps r G l vs → Rep r G (.lst l) (.ref a)
  | ins {c : Nat} {l : List D} {C a dx : Addr} {fs : List (Str × V)} : mg (cName c) = some (.ref C) → G a = some (.ins C dx fs) → fs.map (·.1) = (cFlds c).take l.length → Reps r G l (fs.map (·.2)) → Rep r G (.ins c l) (.ref a)
  | loc {n : Nat} {a : Addr} : r[n]? = some a → Rep r G (.loc n) (.ref a)
  | scr {l : List Int} {a : Addr} : SqL K G a (l.map V.int) → Rep r G (.scr l) (.ref a)
  | edict {a : Addr} : G a = some (.dK []) → Rep r G .edict (.ref a)
inductive Reps (r : List Addr) (G : Hp) : List D → List V → Prop
  | nil : Reps r G [] []
  | cons {d : D} {v : V} {l : List D} {vs : List V} : Rep r G d v → Reps r G l vs → Reps r G (d :: l) (v :: vs)
end
/-- a thing of the store at a -/
def SRep (r : List Addr) (G H : Hp) (a : Addr) : SO → Prop
  | .lst l => ∃ vs, H a = some (.lst vs) ∧ Reps K mg r G l vs
  | .dict l => ∃ kvs, H a = some (.dK kvs) ∧ kvs.map (·.1) = l.map (·.1) ∧ Reps K mg r G (l.map (·.2)) (kvs.map (·.2))
  | .ins c l => ∃ C dx fs, mg (cName c) = some (.ref C) ∧ H a = some (.ins C dx fs) ∧ fs.map (·.1) = (cFlds c).take l.length ∧ Reps K mg r G l (fs.map (·.2))
  | .lock l o kvs => H a = some (.frz o (.dK kvs)) ∧ kvs.map (·.1) = l.map (·.1) ∧ Reps K mg r G (l.map (·.2)) (kvs.map (·.2))
structure Rel (m : Hw) (st : Sto) : Prop where
  sub : ∀ a o, m.g a = some o → m.h a = some o
  len : m.r.length = st.length
  nd : m.r.Nodup
  off : ∀ a ∈ m.r, m.g a = none
  obj : ∀ (n : Nat) (a : Addr) (so : SO), m.r[n]? = some a → st[n]? = some so → SRep K mg m.r m.g m.h a so
end
structure Ext (m m' : Hw) : Prop where
  pre : ∃ t, m'.r = m.r ++ t
  g : ∀ a o, m.g a = some o → m'.g a = some o
  fr : ∀ a o, m.h a = some o → a ∉ m.r → m'.h a = some o ∧ a ∉ m'.r ∧ (m.g a = none → m'.g a = none)
theorem Ext.refl (m : Hw) : Ext m m := ⟨⟨[], by simp⟩, fun _ _ h => h, fun _ _ h n => ⟨h, n, fun z => z⟩⟩
theorem Ext.trans {m m1 m2 : Hw} (a : Ext m m1) (b : Ext m1 m2) : Ext m m2 := by
  obtain ⟨t, ht⟩ := a.pre
  obtain ⟨u, hu⟩ := b.pre
  refine ⟨⟨t ++ u, by rw [hu, ht, List.append_assoc]⟩, fun x o h => b.g x o (a.g x o h), fun x o h n => ?_⟩
  obtain ⟨h1, n1, g1⟩ := a.fr x o h n
  obtain ⟨h2, n2, g2⟩ := b.fr x o h1 n1
  exact ⟨h2, n2, fun z => g2 (g1 z)⟩
theorem Ext.at_ {m m' : Hw} (e : Ext m m') {n : Nat} {a : Addr} (h : m.r[n]? = some a) : m'.r[n]? = some a := by
  obtain ⟨t, ht⟩ := e.pre
  rw [ht, List.getElem?_append_left (List.getElem?_eq_some_iff.mp h).1]
  exact h
section
variable {K : PySem.W.Frag} {mg : Str → Option Value}
theorem sqT_mono {G G' : Hp} {a : Addr} {xs : List V} (e : ∀ a o, G a = some o → G' a = some o) (h : SqT K G a xs) : SqT K G' a xs := by
  rcases h with (h | ⟨o, h⟩) | h
  · exact .inl (.inl (e _ _ h))
  · exact .inl (.inr ⟨o, e _ _ h⟩)
  · exact .inr h
theorem sqL_mono {G G' : Hp} {a : Addr} {xs : List V} (e : ∀ a o, G a = some o → G' a = some o) (h : SqL K G a xs) : SqL K G' a xs := by
  rcases h with (h | ⟨o, h⟩) | h
  · exact .inl (.inl (e _ _ h))
  · exact .inl (.inr ⟨o, e _ _ h⟩)
  · exact .inr h
mutual
theorem Rep.mono' {r r' : List Addr} {G G' : Hp} (er : ∀ (n : Nat) (a : Addr), r[n]? = some a → r'[n]? = some a) (eg : ∀ a o, G a = some o → G' a = some o) : ∀ (d : D) (v : V), Rep K mg r G d v → Rep K mg r' G' d v
  | .non, _, h => by cases h; exact .non
  | .bl b, _, h => by cases h; exact .bl b
  | .int i, _, h => by cases h; exact .int i
  | .str x, _, h => by cases h; exact .str x
  | .tup l, _, h => by
    cases h with
    | tup h1 h2 => exact .tup (sqT_mono eg h1) (Reps.mono' er eg l _ h2)
  | .lst l, _, h => by
    cases h with
    | lst h1 h2 => exact .lst (eg _ _ h1) (Reps.mono' er eg l _ h2)
  | .ins c l, _, h => by
    cases h with
    | ins h1 h2 h3 h4 => exact .ins h1 (eg _ _ h2) h3 (Reps.mono' er eg l _ h4)
  | .loc n, _, h => by
    cases h with
    | loc h1 => exact .loc (er _ _ h1)
  | .scr l, _, h => by
    cases h with
    | scr h1 => exact .scr (sqL_mono eg h1)
  | .edict, _, h => by
    cases h with
    | edict h1 => exact .edict (eg _ _ h1)
theorem Reps.mono' {r r' : List Addr} {G G' : Hp} (er : ∀ (n : Nat) (a : Addr), r[n]? = some a → r'[n]? = some a) (eg : ∀ a o, G a = some o → G' a = some o) : ∀ (l : List D) (vs : List V), Reps K mg r G l vs → Reps K mg r' G' l vs
  | [], _, h => by cases h; exact .nil
  | d :: l, _, h => by
    cases h with
    | cons h1 h2 => exact .cons (Rep.mono' er eg d _ h1) (Reps.mono' er eg l _ h2)
end
theorem Rep.mono {m m' : Hw} (e : Ext m m') {d : D} {v : V} (h : Rep K mg m.r m.g d v) : Rep K mg m'.r m'.g d v := Rep.mono' (fun _ _ => e.at_) e.g d v h
theorem Reps.mono {m m' : Hw} (e : Ext m m') {l : List D} {vs : List V} (h : Reps K mg m.r m.g l vs) : Reps K mg m'.r m'.g l vs := Reps.mono' (fun _ _ => e.at_) e.g l vs h
theorem Reps.length {r : List Addr} {G : Hp} : ∀ {l : List D} {vs : List V}, Reps K mg r G l vs → l.length = vs.length
  | [], _, h => by cases h; rfl
  | _ :: l, _, h => by
    cases h with
    | cons h1 h2 => simp [Reps.length h2]
theorem Reps.get {r : List Addr} {G : Hp} : ∀ {l : List D} {vs : List V} {i : Nat} {d : D}, Reps K mg r G l vs → l[i]? = some d → ∃ v, vs[i]? = some v ∧ Rep K mg r G d v
  | [], _, _, _, h, e => by simp at e
  | x :: l, _, 0, d, h, e => by
    cases h with
    | cons h1 h2 => simp at e; subst e; exact ⟨_, rfl, h1⟩
  | x :: l, _, i + 1, d, h, e => by
    cases h with
    | cons h1 h2 =>
      obtain ⟨v, a, b⟩ := Reps.get (i := i) h2 (by simpa using e)
      exact ⟨v, by simpa using a, b⟩
theorem Reps.get' {r : List Addr} {G : Hp} : ∀ {l : List D} {vs : List V} {i : Nat} {v : V}, Reps K mg r G l vs → vs[i]? = some v → ∃ d, l[i]? = some d ∧ Rep K mg r G d v
  | [], _, _, _, h, e => by cases h; simp at e
  | x :: l, _, 0, d, h, e => by
    cases h with
    | cons h1 h2 => simp at e; subst e; exact ⟨_, rfl, h1⟩
  | x :: l, _, i + 1, d, h, e => by
    cases h with
    | cons h1 h2 =>
      obtain ⟨v, a, b⟩ := Reps.get' (i := i) h2 (by simpa using e)
      exact ⟨v, by simpa using a, b⟩
theorem Reps.append {r : List Addr} {G : Hp} : ∀ {l l' : List D} {vs vs' : List V}, Reps K mg r G l vs → Reps K mg r G l' vs' → Reps K mg r G (l ++ l') (vs ++ vs')
  | [], _, _, _, h, h' => by cases h; exact h'
  | x :: l, _, _, _, h, h' => by
    cases h with
    | cons h1 h2 => exact .cons h1 (Reps.append h2 h')
theorem Reps.one {r : List Addr} {G : Hp} {d : D} {v : V} (h : Rep K mg r G d v) : Reps K mg r G [d] [v] := .cons h .nil
theorem Reps.take {r : List Addr} {G : Hp} : ∀ {l : List D} {vs : List V} (n : Nat), Reps K mg r G l vs → Reps K mg r G (l.take n) (vs.take n)
  | _, _, 0, h => .nil
  | [], _, n + 1, h => by cases h; exact .nil
  | x :: l, _, n + 1, h => by
    cases h with
    | cons h1 h2 => exact .cons h1 (Reps.take n h2)
theorem Reps.drop {r : List Addr} {G : Hp} : ∀ {l : List D} {vs : List V} (n : Nat), Reps K mg r G l vs → Reps K mg r G (l.drop n) (vs.drop n)
  | _, _, 0, h => h
  | [], _, n + 1, h => by cases h; exact .nil
  | x :: l, _, n + 1, h => by
    cases h with
    | cons h1 h2 => exact Reps.drop n h2
theorem Reps.set {r : List Addr} {G : Hp} {d : D} {v : V} (hd : Rep K mg r G d v) : ∀ {l : List D} {vs : List V} (n : Nat), Reps K mg r G l vs → Reps K mg r G (l.set n d) (vs.set n v)
  | [], _, n, h => by cases h; exact .nil
  | x :: l, _, 0, h => by
    cases h with
    | cons h1 h2 => exact .cons hd h2
  | x :: l, _, n + 1, h => by
    cases h with
    | cons h1 h2 => exact .cons h1 (Reps.set hd n h2)

/-! exceptions: the class, and the own dict with one field, frozen -/
def XRep (K : PySem.W.Frag) (mg : Str → Option Value) (m : Hw) (c : Nat) (o : Option D) (cls : Value) (dx : Option Addr) : Prop :=
  ∃ C, mg (xName c) = some (.ref C) ∧ cls = .ref C ∧ match o with
    | none => dx = none
    | some d => ∃ a v, dx = some a ∧ m.g a = some (.xd [(xFld c, v)]) ∧ Rep K mg m.r m.g d v
theorem XRep.mono {m m' : Hw} (e : Ext m m') {c : Nat} {o : Option D} {cls : Value} {dx : Option Addr} (h : XRep K mg m c o cls dx) : XRep K mg m' c o cls dx := by
  obtain ⟨C, h1, h2, h3⟩ := h
  refine ⟨C, h1, h2, ?_⟩
  cases o with
  | none => exact h3
  | some d =>
    obtain ⟨a, v, q1, q2, q3⟩ := h3
    exact ⟨a, v, q1, e.g _ _ q2, q3.mono e⟩

/-! the slots -/
/-- the wish about errors; the error that is held, if any -/
structure Ex where
  i : Nat
  a : Addr
  cls : Value
  d : Option Addr
  c : Nat
  o : Option D
structure We where
  w : WX
  e : Option Ex
/-- a slot that is none by value may hold the error that a suite holds -/
def SgRep (K : PySem.W.Frag) (mg : Str → Option Value) (e : Option Ex) (m : Hw) (sg : Sg) (σ : St) : Prop := sg.length = σ.length ∧ (∀ (i : Nat) (d : D), sg[i]? = some (some d) → ∃ v, σ[i]? = some (some v) ∧ Rep K mg m.r m.g d v) ∧
  ∀ y, e = some y → sg[y.i]? = some none → σ[y.i]? = some (some (.ref y.a)) ∧ XRep K mg m y.c y.o y.cls y.d
variable {x : Option Ex}
theorem SgRep.mono {m m' : Hw} (e : Ext m m') {sg : Sg} {σ : St} (h : SgRep K mg x m sg σ) : SgRep K mg x m' sg σ := ⟨h.1, fun i d q => let ⟨v, a, b⟩ := h.2.1 i d q; ⟨v, a, b.mono e⟩, fun y q z => let ⟨a, b⟩ := h.2.2 y q z; ⟨a, b.mono e⟩⟩
theorem SgRep.set {m : Hw} {sg : Sg} {σ : St} (h : SgRep K mg x m sg σ) (i : Nat) {d : D} {v : V} (r : Rep K mg m.r m.g d v) : SgRep K mg x m (sg.set i (some d)) (σ.set i (some v)) := by
  refine ⟨by simpa using h.1, fun j d' q => ?_, fun y hy q => ?_⟩
  · by_cases e : i = j
    · subst e
      by_cases hl : i < sg.length
      · rw [List.getElem?_set_self hl] at q
        cases q
        exact ⟨v, by rw [List.getElem?_set_self (by rw [← h.1]; exact hl)], r⟩
      · rw [List.getElem?_eq_none (by simpa using hl)] at q; cases q
    · rw [List.getElem?_set_ne e] at q ⊢
      exact h.2.1 j d' q
  · by_cases e : i = y.i
    · rw [e] at q
      by_cases hl : y.i < sg.length
      · rw [List.getElem?_set_self hl] at q; cases q
      · rw [List.getElem?_eq_none (by simpa using hl)] at q; cases q
    · rw [List.getElem?_set_ne e] at q ⊢
      exact h.2.2 y hy q
theorem SgRep.held {y : Ex} {m : Hw} {sg : Sg} {σ : St} (h : SgRep K mg none m sg σ) (r : XRep K mg m y.c y.o y.cls y.d) : SgRep K mg (some y) m (sg.set y.i none) (σ.set y.i (some (.ref y.a))) := by
  refine ⟨by simpa using h.1, fun j d' q => ?_, fun z hz q => ?_⟩
  · by_cases e : y.i = j
    · subst e
      by_cases hl : y.i < sg.length
      · rw [List.getElem?_set_self hl] at q; cases q
      · rw [List.getElem?_eq_none (by simpa using hl)] at q; cases q
    · rw [List.getElem?_set_ne e] at q ⊢
      exact h.2.1 j d' q
  · cases hz
    have hl : y.i < sg.length := by
      rcases Nat.lt_or_ge y.i sg.length with z | z
      · exact z
      · rw [List.getElem?_eq_none (by simpa using z)] at q; cases q
    exact ⟨by rw [List.getElem?_set_self (by rw [← h.1]; exact hl)], r⟩
/-- the held error's slot is emptied -/
theorem SgRep.unheld {y : Ex} {m : Hw} {sg : Sg} {σ : St} (h : SgRep K mg (some y) m sg σ) : SgRep K mg none m (sg.set y.i none) (σ.set y.i none) := by
  refine ⟨by simpa using h.1, fun j d' q => ?_, fun z hz _ => nomatch hz⟩
  by_cases e : y.i = j
  · subst e
    by_cases hl : y.i < sg.length
    · rw [List.getElem?_set_self hl] at q; cases q
    · rw [List.getElem?_eq_none (by simpa using hl)] at q; cases q
  · rw [List.getElem?_set_ne e] at q ⊢
    exact h.2.1 j d' q
theorem SgRep.unset {m : Hw} {sg : Sg} {σ : St} (h : SgRep K mg x m sg σ) (i : Nat) (hi : ∀ y, x = some y → y.i ≠ i) : SgRep K mg x m (sg.set i none) (σ.set i none) := by
  refine ⟨by simpa using h.1, fun j d' q => ?_, fun y hy q => ?_⟩
  · by_cases e : i = j
    · subst e
      by_cases hl : i < sg.length
      · rw [List.getElem?_set_self hl] at q; cases q
      · rw [List.getElem?_eq_none (by simpa using hl)] at q; cases q
    · rw [List.getElem?_set_ne e] at q ⊢
      exact h.2.1 j d' q
  · have e : i ≠ y.i := fun z => hi y hy z.symm
    rw [List.getElem?_set_ne e] at q ⊢
    exact h.2.2 y hy q

/-! what is wanted behind -/
def Post {α β : Type} (K : PySem.W.Frag) (mg : Str → Option Value) (W : WX) (m : Hw) (σ : St) (R : Hw → α → β → Prop) (Q : β → Hp → Prop) : Res α → Prop
  | .ok a st => ∀ m' v, Ext m m' → Rel K mg m' st → R m' a v → Q v m'.h
  | .exc c fs st => ∀ m' cls dx, Ext m m' → Rel K mg m' st → XRep K mg m' c fs cls dx → W cls dx σ m'.h
  | .bad => False
abbrev RD (K : PySem.W.Frag) (mg : Str → Option Value) : Hw → D → V → Prop := fun m d v => Rep K mg m.r m.g d v
abbrev RDs (K : PySem.W.Frag) (mg : Str → Option Value) : Hw → List D → List V → Prop := fun m d v => Reps K mg m.r m.g d v
abbrev RB : Hw → Bool → Bool → Prop := fun _ a b => a = b
section
variable {α β γ δ : Type} {W : WX} {m m1 : Hw} {σ : St} {R : Hw → α → β → Prop} {R' : Hw → γ → δ → Prop} {Q : δ → Hp → Prop} {Q1 : β → Hp → Prop} {x : Res α} {k : α → Sto → Res γ}
theorem Post.mono {y : Res γ} (h : Post K mg W m σ R' Q y) (e : Ext m m1) : Post K mg W m1 σ R' Q y := by
  cases y with
  | ok a st => exact fun m' v e' r q => h m' v (e.trans e') r q
  | exc c fs st => exact fun m' cls dx e' r q => h m' cls dx (e.trans e') r q
  | bad => exact h
theorem Post.bindc (hp : Post K mg W m σ R' Q (x.bind k)) (h : ∀ m1 a v st1, Ext m m1 → Rel K mg m1 st1 → R m1 a v → Post K mg W m1 σ R' Q (k a st1) → Q1 v m1.h) : Post K mg W m σ R Q1 x := by
  cases x with
  | ok a st => exact fun m' v e r q => h m' a v st e r q (Post.mono hp e)
  | exc c fs st => exact hp
  | bad => exact hp
theorem Post.okc {a : γ} {st : Sto} {v : δ} (hp : Post K mg W m σ R' Q (.ok a st)) (r : Rel K mg m st) (q : R' m a v) : Q v m.h := hp m v (Ext.refl m) r q
end
def TOf {α β : Type} (K : PySem.W.Frag) (mg : Str → Option Value) (W : We) (R : Hw → α → β → Prop) (f : Sg → Sto → Res α) : St → Hp → (β → Hp → Prop) → Prop := fun σ H Q =>
  ∃ m sg st, m.h = H ∧ Rel K mg m st ∧ SgRep K mg W.e m sg σ ∧ Post K mg W.w m σ R Q (f sg st)
def PostS (K : PySem.W.Frag) (mg : Str → Option Value) (W : We) (m : Hw) (D : Ends) : Flw → Prop
  | .nx sg st => ∀ m' σ, Ext m m' → Rel K mg m' st → SgRep K mg W.e m' sg σ → D.nx σ m'.h
  | .ret d st => ∀ m' v, Ext m m' → Rel K mg m' st → Rep K mg m'.r m'.g d v → D.rt v m'.h
  | .brk sg st => ∀ m' σ, Ext m m' → Rel K mg m' st → SgRep K mg W.e m' sg σ → D.bk σ m'.h
  | .cnt sg st => ∀ m' σ, Ext m m' → Rel K mg m' st → SgRep K mg W.e m' sg σ → D.ct σ m'.h
  | .exc c fs sg st => ∀ m' σ cls dx, Ext m m' → Rel K mg m' st → SgRep K mg W.e m' sg σ → XRep K mg m' c fs cls dx → W.w cls dx σ m'.h
  | .bad => False
theorem PostS.mono {W : We} {m m1 : Hw} {D : Ends} {y : Flw} (h : PostS K mg W m D y) (e : Ext m m1) : PostS K mg W m1 D y := by
  cases y with
  | nx sg st => exact fun m' v e' r q => h m' v (e.trans e') r q
  | ret d st => exact fun m' v e' r q => h m' v (e.trans e') r q
  | brk sg st => exact fun m' v e' r q => h m' v (e.trans e') r q
  | cnt sg st => exact fun m' v e' r q => h m' v (e.trans e') r q
  | exc c fs sg st => exact fun m' v cls dx e' r q => h m' v cls dx (e.trans e') r q
  | bad => exact h
def SOf (K : PySem.W.Frag) (mg : Str → Option Value) (W : We) (g : SF) : TS := fun D σ H => ∃ m sg st, m.h = H ∧ Rel K mg m st ∧ SgRep K mg W.e m sg σ ∧ PostS K mg W m D (g sg st)
end

/-! judgements -/
def SE (X : Cx) (W : We) (e : Expr) (f : EF) : Prop := PE X e (TOf X.K X.mg W (RD X.K X.mg) f)
def SB (X : Cx) (W : We) (e : Expr) (f : TF) : Prop := PT X e (TOf X.K X.mg W RB f)
def SA (X : Cx) (W : We) (es : List Expr) (f : AF) : Prop := PA X es (TOf X.K X.mg W (RDs X.K X.mg) f)
def SS (X : Cx) (W : We) (s : Stmt) (g : SF) : Prop := PS X s (SOf X.K X.mg W g)
def SSs (X : Cx) (W : We) (s : List Stmt) (g : SF) : Prop := PSs X s (SOf X.K X.mg W g)
theorem pe_weak {X : Cx} {e : Expr} {t t' : TE} (h : PE X e t) (i : ∀ σ H Q, t' σ H Q → t σ H Q) : PE X e t' := ⟨fun pins s σ H Q I q => h.run pins s σ H Q I (i σ H Q q)⟩
theorem pt_weak {X : Cx} {e : Expr} {t t' : TT} (h : PT X e t) (i : ∀ σ H Q, t' σ H Q → t σ H Q) : PT X e t' := ⟨fun pins s σ H Q I q => h.run pins s σ H Q I (i σ H Q q)⟩
theorem pa_weak {X : Cx} {e : List Expr} {t t' : TA} (h : PA X e t) (i : ∀ σ H Q, t' σ H Q → t σ H Q) : PA X e t' := ⟨fun pos pins s σ H Q I q => h.run pos pins s σ H Q I (i σ H Q q)⟩
theorem ps_weak {X : Cx} {e : Stmt} {t t' : TS} (h : PS X e t) (i : ∀ D σ H, t' D σ H → t D σ H) : PS X e t' := ⟨fun pins s σ H D I q => h.run pins s σ H D I (i D σ H q)⟩
theorem pss_weak {X : Cx} {e : List Stmt} {t t' : TS} (h : PSs X e t) (i : ∀ D σ H, t' D σ H → t D σ H) : PSs X e t' := ⟨fun pins s σ H D I q => h.run pins s σ H D I (i D σ H q)⟩
end Sh
/-! Part B: what is laid, what is written; expressions. -/
namespace Sh
open PySem L2
section
variable {K : PySem.W.Frag} {mg : Str → Option Value} {m : Hw} {st : Sto}
theorem Rel.live (R : Rel K mg m st) {a : Addr} (h : a ∈ m.r) : ∃ o, m.h a = some o := by
  obtain ⟨n, hn, e⟩ := List.mem_iff_getElem.mp h
  have hs : n < st.length := by rw [← R.len]; exact hn
  have q := R.obj n a st[n] (by rw [List.getElem?_eq_getElem hn, e]) (List.getElem?_eq_getElem hs)
  cases e : st[n] with
  | lst l => rw [e] at q; obtain ⟨vs, q, _⟩ := q; exact ⟨_, q⟩
  | dict l => rw [e] at q; obtain ⟨vs, q, _⟩ := q; exact ⟨_, q⟩
  | ins c l => rw [e] at q; obtain ⟨_, _, _, _, q, _⟩ := q; exact ⟨_, q⟩
  | lock l o kvs => rw [e] at q; exact ⟨_, q.1⟩
theorem Rel.gnone (R : Rel K mg m st) {p : Addr} (h : m.h p = none) : m.g p = none := by
  cases e : m.g p with
  | none => rfl
  | some o => have := R.sub p o e; rw [h] at this; cases this
theorem Rel.fresh (R : Rel K mg m st) {p : Addr} (h : m.h p = none) : p ∉ m.r := fun z => by
  obtain ⟨o, e⟩ := R.live z
  rw [h] at e; cases e
theorem SRep.mono' {r r' : List Addr} {G G' H H' : Hp} {a : Addr} (er : ∀ (n : Nat) (a : Addr), r[n]? = some a → r'[n]? = some a) (eg : ∀ a o, G a = some o → G' a = some o) (eh : ∀ o, H a = some o → H' a = some o) : ∀ {so : SO}, SRep K mg r G H a so → SRep K mg r' G' H' a so
  | .lst l, ⟨vs, h1, h2⟩ => ⟨vs, eh _ h1, Reps.mono' er eg _ _ h2⟩
  | .dict l, ⟨vs, h1, h2, h3⟩ => ⟨vs, eh _ h1, h2, Reps.mono' er eg _ _ h3⟩
  | .ins c l, ⟨C, dx, fs, h1, h2, h3, h4⟩ => ⟨C, dx, fs, h1, eh _ h2, h3, Reps.mono' er eg _ _ h4⟩
  | .lock l o kvs, ⟨h1, h2, h3⟩ => ⟨eh _ h1, h2, Reps.mono' er eg _ _ h3⟩

/-! laid by value -/
def Hw.lay (m : Hw) (p : Addr) (o : HO) : Hw := ⟨m.r, upd m.g p o, upd m.h p o⟩
theorem Ext.lay (R : Rel K mg m st) {p : Addr} {o : HO} (h : m.h p = none) : Ext m (m.lay p o) := by
  refine ⟨⟨[], by simp [Hw.lay]⟩, fun a u e => ?_, fun a u e n => ⟨?_, n, fun z => ?_⟩⟩
  · have : a ≠ p := ne_of_none e (R.gnone h)
    show upd m.g p o a = some u
    rw [upd_ne this]; exact e
  · show upd m.h p o a = some u
    rw [upd_ne (ne_of_none e h)]; exact e
  · show upd m.g p o a = none
    rw [upd_ne (ne_of_none e h)]; exact z
theorem Rel.lay (R : Rel K mg m st) {p : Addr} {o : HO} (h : m.h p = none) : Rel K mg (m.lay p o) st := by
  refine ⟨fun a u e => ?_, R.len, R.nd, fun a z => ?_, fun n a so e1 e2 => ?_⟩
  · show upd m.h p o a = some u
    have e : upd m.g p o a = some u := e
    by_cases q : a = p
    · subst q; rw [upd_same] at e ⊢; exact e
    · rw [upd_ne q] at e ⊢; exact R.sub a u e
  · show upd m.g p o a = none
    have : a ≠ p := fun q => R.fresh h (q ▸ z)
    rw [upd_ne this]; exact R.off a z
  · refine (R.obj n a so e1 e2).mono' (fun _ _ z => z) (Ext.lay R h).g fun u q => ?_
    show upd m.h p o a = some u
    rw [upd_ne (ne_of_none q h)]; exact q
theorem Post.lay {α : Type} {W : We} {σ : St} {R' : Hw → D → V → Prop} {Q : VK} {d : D} {o : HO} (hp : Post K mg W.w m σ R' Q (.ok d st)) (R : Rel K mg m st) (hr : ∀ p, m.h p = none → R' (m.lay p o) d (.ref p)) : ∀ p, m.h p = none → Q (.ref p) (upd m.h p o) := fun p h =>
  hp (m.lay p o) (.ref p) (Ext.lay R h) (R.lay h) (hr p h)
/-! laid as a thing of the store -/
def Hw.new (m : Hw) (p : Addr) (o : HO) : Hw := ⟨m.r ++ [p], m.g, upd m.h p o⟩
theorem Ext.new (R : Rel K mg m st) {p : Addr} {o : HO} (h : m.h p = none) : Ext m (m.new p o) := by
  refine ⟨⟨[p], rfl⟩, fun a u e => e, fun a u e n => ⟨?_, ?_, fun z => z⟩⟩
  · show upd m.h p o a = some u
    rw [upd_ne (ne_of_none e h)]; exact e
  · show a ∉ m.r ++ [p]
    have : a ≠ p := ne_of_none e h
    simp [n, this]
theorem Rel.new (R : Rel K mg m st) {p : Addr} {o : HO} {so : SO} (h : m.h p = none) (q : SRep K mg (m.r ++ [p]) m.g (upd m.h p o) p so) : Rel K mg (m.new p o) (st ++ [so]) := by
  refine ⟨fun a u e => ?_, by simp [Hw.new, R.len], ?_, fun a z => ?_, fun n a so' e1 e2 => ?_⟩
  · show upd m.h p o a = some u
    rw [upd_ne (ne_of_none (R.sub a u e) h)]; exact R.sub a u e
  · show (m.r ++ [p]).Nodup
    rw [List.nodup_append]
    refine ⟨R.nd, by simp, fun a ha b hb e => ?_⟩
    have hb' : b = p := by simpa using hb
    subst e
    exact R.fresh h (hb' ▸ ha)
  · have z' : a ∈ m.r ++ [p] := z
    rcases List.mem_append.mp z' with z' | z'
    · exact R.off a z'
    · have : a = p := by simpa using z'
      rw [this]; exact R.gnone h
  · have e1 : (m.r ++ [p])[n]? = some a := e1
    by_cases hn : n < m.r.length
    · rw [List.getElem?_append_left hn] at e1
      rw [List.getElem?_append_left (by rw [← R.len]; exact hn)] at e2
      refine (R.obj n a so' e1 e2).mono' (fun _ _ z => (Ext.new (o := o) R h).at_ z) (fun _ _ z => z) fun u q => ?_
      show upd m.h p o a = some u
      rw [upd_ne (ne_of_none q h)]; exact q
    · have hl := R.len
      rw [List.getElem?_append_right (by omega)] at e1 e2
      have h0 : n - m.r.length = 0 := by
        cases z : n - m.r.length with
        | zero => rfl
        | succ k => rw [z] at e1; simp at e1
      have h0' : n - st.length = 0 := by omega
      rw [h0] at e1; rw [h0'] at e2
      simp at e1 e2
      subst e1; subst e2
      exact q
/-! a thing of the store is written -/
theorem nodup_ix' {N : List Addr} (hN : N.Nodup) {i j : Nat} {x : Addr} (a : N[i]? = some x) (b : N[j]? = some x) : i = j := by
  obtain ⟨h1, e1⟩ := List.getElem?_eq_some_iff.mp a
  obtain ⟨h2, e2⟩ := List.getElem?_eq_some_iff.mp b
  exact (List.getElem_inj hN).mp (e1.trans e2.symm)
def Hw.put (m : Hw) (p : Addr) (o : HO) : Hw := ⟨m.r, m.g, upd m.h p o⟩
theorem Ext.put {p : Addr} {o : HO} (h : p ∈ m.r) : Ext m (m.put p o) := by
  refine ⟨⟨[], by simp [Hw.put]⟩, fun a u e => e, fun a u e n => ⟨?_, n, fun z => z⟩⟩
  show upd m.h p o a = some u
  have : a ≠ p := fun z => n (z ▸ h)
  rw [upd_ne this]; exact e
theorem Rel.put (R : Rel K mg m st) {n : Nat} {p : Addr} {o : HO} {so : SO} (e : m.r[n]? = some p) (q : SRep K mg m.r m.g (upd m.h p o) p so) : Rel K mg (m.put p o) (st.set n so) := by
  have hm : p ∈ m.r := List.mem_of_getElem? e
  refine ⟨fun a u e => ?_, by simp [Hw.put, R.len], R.nd, R.off, fun i a so' e1 e2 => ?_⟩
  · show upd m.h p o a = some u
    have : a ≠ p := fun z => by have := R.off p hm; rw [← z] at this; rw [show m.g a = some u from e] at this; cases this
    rw [upd_ne this]; exact R.sub a u e
  · have e1 : m.r[i]? = some a := e1
    by_cases hi : i = n
    · subst hi
      rw [e] at e1; cases e1
      have hl : i < st.length := by rw [← R.len]; exact (List.getElem?_eq_some_iff.mp e).1
      rw [List.getElem?_set_self hl] at e2
      cases e2
      exact q
    · rw [List.getElem?_set_ne (Ne.symm hi)] at e2
      have : a ≠ p := fun z => hi (nodup_ix' R.nd e1 (z ▸ e))
      refine (R.obj i a so' e1 e2).mono' (fun _ _ z => z) (fun _ _ z => z) fun u q => ?_
      show upd m.h p o a = some u
      rw [upd_ne this]; exact q
end

/-! expressions -/
section
variable {X : Cx} {W : We} {a b c e : Expr} {fa fb fc f : EF} {pos : Pos}
@[simp] def fVar (i : Nat) : EF := fun sg st => match sg[i]? with
  | some (some d) => .ok d st
  | _ => .bad
@[simp] def fC (d : D) : EF := fun _ st => .ok d st
@[simp] def fBin (sem : D → D → Sto → Res D) (fa fb : EF) : EF := fun sg st => (fa sg st).bind fun x st1 => (fb sg st1).bind fun y st2 => sem x y st2
@[simp] def fUn (sem : D → Sto → Res D) (fa : EF) : EF := fun sg st => (fa sg st).bind fun x st1 => sem x st1
theorem se_var {i : Nat} {x : Str} (h : PE X (.Name x pos) (tVar i)) : SE X W (.Name x pos) (fVar i) := pe_weak h fun σ H Q ⟨m, sg, st, e, rm, rs, hp⟩ => by
  subst e
  unfold fVar at hp
  split at hp
  · rename_i d q
    obtain ⟨v, h1, h2⟩ := rs.2.1 i d q
    exact ⟨v, h1, hp.okc rm h2⟩
  · exact False.elim hp
theorem se_c {d : D} {v : V} (h : PE X e (tC v)) (r : ∀ m st, Rel X.K X.mg m st → Rep X.K X.mg m.r m.g d v) : SE X W e (fC d) := pe_weak h fun σ H Q ⟨m, sg, st, e, rm, rs, hp⟩ => by
  subst e
  exact hp.okc rm (r m st rm)
theorem se_int {i : Int} {j : Nat} : SE X W (.Constant (.int i) j pos) (fC (.int i)) := se_c pe_int fun _ _ _ => .int i
theorem se_bl {i : Bool} {j : Nat} : SE X W (.Constant (.bool i) j pos) (fC (.bl i)) := se_c pe_bl fun _ _ _ => .bl i
theorem se_non {j : Nat} : SE X W (.Constant .none j pos) (fC .non) := se_c pe_non fun _ _ _ => .non
theorem se_str {i : Str} {j : Nat} : SE X W (.Constant (.str i) j pos) (fC (.str i)) := se_c pe_str fun _ _ _ => .str i
/-- what a value-level rule wants of the meaning -/
def Fits2 (X : Cx) (W : We) (r : R2) (sem : D → D → Sto → Res D) : Prop := ∀ (m : Hw) (st : Sto) (σ : St) (x y : D) (v w : V) (Q : VK), Rel X.K X.mg m st → Rep X.K X.mg m.r m.g x v → Rep X.K X.mg m.r m.g y w → Post X.K X.mg W.w m σ (RD X.K X.mg) Q (sem x y st) → r v w m.h Q
def Fits1 (X : Cx) (W : We) (r : V → Hp → VK → Prop) (sem : D → Sto → Res D) : Prop := ∀ (m : Hw) (st : Sto) (σ : St) (x : D) (v : V) (Q : VK), Rel X.K X.mg m st → Rep X.K X.mg m.r m.g x v → Post X.K X.mg W.w m σ (RD X.K X.mg) Q (sem x st) → r v m.h Q
theorem tOp_of {r : R2} {sem : D → D → Sto → Res D} (hs : Fits2 X W r sem) {σ : St} {H : Hp} {Q : VK} (h : TOf X.K X.mg W (RD X.K X.mg) (fBin sem fa fb) σ H Q) : tOp r (TOf X.K X.mg W (RD X.K X.mg) fa) (TOf X.K X.mg W (RD X.K X.mg) fb) σ H Q := by
  obtain ⟨m, sg, st, rfl, rm, rs, hp⟩ := h
  exact ⟨m, sg, st, rfl, rm, rs, hp.bindc fun m1 x v st1 e1 r1 q1 hp1 => ⟨m1, sg, st1, rfl, r1, rs.mono e1, hp1.bindc fun m2 y w st2 e2 r2 q2 hp2 => hs m2 st2 σ x y v w Q r2 (q1.mono e2) q2 hp2⟩⟩
theorem se_bin {op : Operator} {r : R2} {sem : D → D → Sto → Res D} (ho : OpR X (binaryOp op) r) (hs : Fits2 X W r sem) (ha : SE X W a fa) (hb : SE X W b fb) : SE X W (.BinOp a op b pos) (fBin sem fa fb) :=
  pe_weak (pe_op ho ha hb) fun _ _ _ h => tOp_of hs h
theorem se_un {op : UnaryOp} {r : V → Hp → VK → Prop} {sem : D → Sto → Res D} (ho : UnR X (unaryOp op) r) (hs : Fits1 X W r sem) (ha : SE X W a fa) : SE X W (.UnaryOp op a pos) (fUn sem fa) :=
  pe_weak (pe_un ho ha) fun σ H Q ⟨m, sg, st, e, rm, rs, hp⟩ => ⟨m, sg, st, e, rm, rs, hp.bindc fun m1 x v st1 e1 r1 q1 hp1 => hs m1 st1 σ x v Q r1 q1 hp1⟩
theorem se_cmp {op : CmpOp} {r : R2} {sem : D → D → Sto → Res D} (ho : OpR X (compareOp op) r) (hs : Fits2 X W r sem) (ha : SE X W a fa) (hb : SE X W b fb) (hm : behindInMarks op b = false) : SE X W (.Compare a [op] [b] pos) (fBin sem fa fb) :=
  pe_weak (pe_cmpR ho ha hb hm) fun _ _ _ h => tOp_of hs h

/-! tests -/
def dBool : D → Option Bool
  | .bl b => some b
  | _ => none
@[simp] def tOfE (fa : EF) : TF := fun sg st => (fa sg st).bind fun x st1 => match x with
  | .bl b => .ok b st1
  | _ => .bad
/-- a comparison as a test -/
theorem sb_cmp {op : CmpOp} {r : R2} {sem : D → D → Sto → Res D} (ho : OpR X (compareOp op) r) (hs : Fits2 X W r sem) (ha : SE X W a fa) (hb : SE X W b fb) (hm : behindInMarks op b = false) : SB X W (.Compare a [op] [b] pos) (tOfE (fBin sem fa fb)) :=
  pt_weak (pt_cmpR ho ha hb hm) fun σ H Q ⟨m, sg, st, e, rm, rs, hp⟩ => tOp_of (sem := sem) hs ⟨m, sg, st, e, rm, rs, hp.bindc fun m1 x v st1 e1 r1 q1 hp1 => by
    split at hp1
    · cases q1; exact ⟨_, rfl, hp1.okc r1 rfl⟩
    · exact False.elim hp1⟩
/-- any value's truth -/
def dTru : D → Sto → Option Bool
  | .non, _ => some false
  | .bl b, _ => some b
  | .int i, _ => some (i != 0)
  | .str x, _ => if x.length ≤ 16777216 then some ((x.length : Int) != 0) else none
  | .tup l, _ => some !l.isEmpty
  | .lst l, _ => some !l.isEmpty
  | .loc n, st => match st[n]? with
    | some (.lst l) => some !l.isEmpty
    | some (.dict l) => some !l.isEmpty
    | _ => none
  | .edict, _ => some false
  | _, _ => none
theorem tru_of {m : Hw} {st : Sto} {d : D} {v : V} {k : Bool} (rm : Rel X.K X.mg m st) (q : Rep X.K X.mg m.r m.g d v) (e : dTru d st = some k) : TruV X.K v m.h k := by
  have emp : ∀ {l : List D} {vs : List V}, Reps X.K X.mg m.r m.g l vs → (!l.isEmpty) = !vs.isEmpty := fun h => by cases h <;> rfl
  unfold dTru at e
  split at e
  · cases q; exact (Option.some.inj e).symm
  · cases q; exact (Option.some.inj e).symm
  · cases q; exact (Option.some.inj e).symm
  · cases q
    split at e
    · rename_i h
      exact ⟨by rw [sizeLine_eq]; exact h, (Option.some.inj e).symm⟩
    · cases e
  · cases q with
    | tup h1 h2 => exact .inr (.inl ⟨_, sqT_mono rm.sub h1, by rw [← Option.some.inj e]; exact emp h2⟩)
  · cases q with
    | lst h1 h2 => exact .inl ⟨_, .of (rm.sub _ _ h1), by rw [← Option.some.inj e]; exact emp h2⟩
  · cases q with
    | loc h1 =>
      split at e
      · rename_i h2
        obtain ⟨vs, h3, h4⟩ := rm.obj _ _ _ h1 h2
        exact .inl ⟨_, .of h3, by rw [← Option.some.inj e]; exact emp h4⟩
      · rename_i l h2
        obtain ⟨kvs, h3, h4, _⟩ := rm.obj _ _ _ h1 h2
        refine .inr (.inr ⟨_, h3, ?_⟩)
        rw [← Option.some.inj e]
        have : kvs.length = l.length := by have := congrArg List.length h4; simpa using this
        cases l <;> cases kvs <;> simp_all
      · cases e
  · cases q with
    | edict h1 => exact .inr (.inr ⟨_, rm.sub _ _ h1, (Option.some.inj e).symm⟩)
  · cases e
@[simp] def tTru (fa : EF) : TF := fun sg st => (fa sg st).bind fun x st1 => match dTru x st1 with
  | some b => .ok b st1
  | none => .bad
theorem sb_tru (ha : SE X W a fa) (he : ∀ whole, isTrue a X.env whole = (do let v ← whole; standAt a.pos; holding [v] (truthy v))) : SB X W a (tTru fa) :=
  pt_weak (pt_truth ha he) fun σ H Q ⟨m, sg, st, e, rm, rs, hp⟩ => ⟨m, sg, st, e, rm, rs, hp.bindc fun m1 x v st1 e1 r1 q1 hp1 => by
    split at hp1
    · rename_i b h
      exact ⟨b, tru_of r1 q1 h, hp1.okc r1 rfl⟩
    · exact False.elim hp1⟩
def SW (X : Cx) (W : We) (e : Expr) (f : TF) : Prop := PW X e (TOf X.K X.mg W RB f)
theorem pw_weak {X : Cx} {e : Expr} {t t' : TT} (h : PW X e t) (i : ∀ σ H Q, t' σ H Q → t σ H Q) : PW X e t' := ⟨fun wh pins s σ H Q I q => h.run wh pins s σ H Q I (i σ H Q q)⟩
@[simp] def tAnd' (t u : TF) : TF := fun sg st => (t sg st).bind fun b st1 => if b = true then u sg st1 else .ok false st1
@[simp] def tOr' (t u : TF) : TF := fun sg st => (t sg st).bind fun b st1 => if b = true then .ok true st1 else u sg st1
@[simp] def tNot' (t : TF) : TF := fun sg st => (t sg st).bind fun b st1 => .ok (!b) st1
variable {t u : TF} {rest : List Expr}
theorem sw_and1 (h : SB X W a t) : SW X W (.BoolOp .And [a] pos) t := pw_and1 h
theorem sw_or1 (h : SB X W a t) : SW X W (.BoolOp .Or [a] pos) t := pw_or1 h
theorem sw_and (h : SB X W a t) (h2 : SW X W (.BoolOp .And (b :: rest) pos) u) : SW X W (.BoolOp .And (a :: b :: rest) pos) (tAnd' t u) :=
  pw_weak (pw_and h h2) fun σ H Q ⟨m, sg, st, e, rm, rs, hp⟩ => ⟨m, sg, st, e, rm, rs, hp.bindc fun m1 x v st1 e1 r1 q1 hp1 => by
    cases q1
    cases x with
    | true => exact ⟨m1, sg, st1, rfl, r1, rs.mono e1, hp1⟩
    | false => exact hp1.okc r1 rfl⟩
theorem sw_or (h : SB X W a t) (h2 : SW X W (.BoolOp .Or (b :: rest) pos) u) : SW X W (.BoolOp .Or (a :: b :: rest) pos) (tOr' t u) :=
  pw_weak (pw_or h h2) fun σ H Q ⟨m, sg, st, e, rm, rs, hp⟩ => ⟨m, sg, st, e, rm, rs, hp.bindc fun m1 x v st1 e1 r1 q1 hp1 => by
    cases q1
    cases x with
    | false => exact ⟨m1, sg, st1, rfl, r1, rs.mono e1, hp1⟩
    | true => exact hp1.okc r1 rfl⟩
theorem sb_w (h : SW X W a t) : SB X W a t := PW.pt h
theorem sb_not (h : SB X W a t) : SB X W (.UnaryOp .Not a pos) (tNot' t) :=
  pt_weak (pt_not h) fun σ H Q ⟨m, sg, st, e, rm, rs, hp⟩ => ⟨m, sg, st, e, rm, rs, hp.bindc fun m1 x v st1 e1 r1 q1 hp1 => by
    cases q1; exact hp1.okc r1 rfl⟩
@[simp] def fIfE (t : TF) (fa fb : EF) : EF := fun sg st => (t sg st).bind fun b st1 => if b = true then fa sg st1 else fb sg st1
theorem se_if (ht : SB X W c t) (ha : SE X W a fa) (hb : SE X W b fb) : SE X W (.IfExp c a b pos) (fIfE t fa fb) :=
  pe_weak (pe_ifExp ht ha hb) fun σ H Q ⟨m, sg, st, e, rm, rs, hp⟩ => ⟨m, sg, st, e, rm, rs, hp.bindc fun m1 x v st1 e1 r1 q1 hp1 => by
    cases q1
    cases x with
    | true => exact ⟨m1, sg, st1, rfl, r1, rs.mono e1, hp1⟩
    | false => exact ⟨m1, sg, st1, rfl, r1, rs.mono e1, hp1⟩⟩
/-! and, or, not as values, by truth -/
@[simp] def fAnd (fa fb : EF) : EF := fun sg st => (fa sg st).bind fun x st1 => match dTru x st1 with
  | some true => fb sg st1
  | some false => .ok x st1
  | none => .bad
@[simp] def fOr (fa fb : EF) : EF := fun sg st => (fa sg st).bind fun x st1 => match dTru x st1 with
  | some true => .ok x st1
  | some false => fb sg st1
  | none => .bad
@[simp] def fNot (fa : EF) : EF := fun sg st => (fa sg st).bind fun x st1 => match dTru x st1 with
  | some b => .ok (.bl !b) st1
  | none => .bad
theorem se_one {op : BoolOp} (h : SE X W a fa) : SE X W (.BoolOp op [a] pos) fa := pe_one h
theorem se_and (ha : SE X W a fa) (hb : SE X W (.BoolOp .And (b :: rest) pos) fb) : SE X W (.BoolOp .And (a :: b :: rest) pos) (fAnd fa fb) :=
  pe_weak (pe_andT ha hb) fun σ H Q ⟨m, sg, st, e, rm, rs, hp⟩ => ⟨m, sg, st, e, rm, rs, hp.bindc fun m1 x v st1 e1 r1 q1 hp1 => by
    split at hp1
    · rename_i h
      exact ⟨true, tru_of r1 q1 h, iteT ⟨m1, sg, st1, rfl, r1, rs.mono e1, hp1⟩⟩
    · rename_i h
      exact ⟨false, tru_of r1 q1 h, iteF (hp1.okc r1 q1)⟩
    · exact False.elim hp1⟩
theorem se_or (ha : SE X W a fa) (hb : SE X W (.BoolOp .Or (b :: rest) pos) fb) : SE X W (.BoolOp .Or (a :: b :: rest) pos) (fOr fa fb) :=
  pe_weak (pe_orT ha hb) fun σ H Q ⟨m, sg, st, e, rm, rs, hp⟩ => ⟨m, sg, st, e, rm, rs, hp.bindc fun m1 x v st1 e1 r1 q1 hp1 => by
    split at hp1
    · rename_i h
      exact ⟨true, tru_of r1 q1 h, iteT (hp1.okc r1 q1)⟩
    · rename_i h
      exact ⟨false, tru_of r1 q1 h, iteF ⟨m1, sg, st1, rfl, r1, rs.mono e1, hp1⟩⟩
    · exact False.elim hp1⟩
theorem se_not (ha : SE X W a fa) : SE X W (.UnaryOp .Not a pos) (fNot fa) :=
  pe_weak (pe_notT ha) fun σ H Q ⟨m, sg, st, e, rm, rs, hp⟩ => ⟨m, sg, st, e, rm, rs, hp.bindc fun m1 x v st1 e1 r1 q1 hp1 => by
    split at hp1
    · rename_i b h
      exact ⟨b, tru_of r1 q1 h, hp1.okc r1 (.bl _)⟩
    · exact False.elim hp1⟩
/-! argument lists, displays -/
@[simp] def aNil : AF := fun _ st => .ok [] st
@[simp] def aCons (f : EF) (g : AF) : AF := fun sg st => (f sg st).bind fun x st1 => (g sg st1).bind fun l st2 => .ok (x :: l) st2
variable {es : List Expr} {g : AF}
theorem sa_nil : SA X W [] aNil := pa_weak pa_nil fun σ H Q ⟨m, sg, st, e, rm, rs, hp⟩ => by
  subst e; exact hp.okc rm .nil
theorem sa_cons (he : SE X W e f) (hr : SA X W es g) (hs : starEach (e :: es) X.env = (false, eval e X.env) :: starEach es X.env := by rfl) : SA X W (e :: es) (aCons f g) :=
  pa_weak (pa_cons he hr hs) fun σ H Q ⟨m, sg, st, e, rm, rs, hp⟩ => ⟨m, sg, st, e, rm, rs, hp.bindc fun m1 x v st1 e1 r1 q1 hp1 => ⟨m1, sg, st1, rfl, r1, rs.mono e1, hp1.bindc fun m2 l vs st2 e2 r2 q2 hp2 => hp2.okc r2 (.cons (q1.mono e2) q2)⟩⟩
@[simp] def fTup (g : AF) : EF := fun sg st => (g sg st).bind fun l st1 => if l.length ≤ 16777216 then .ok (.tup l) st1 else .bad
@[simp] def fLst (g : AF) : EF := fun sg st => (g sg st).bind fun l st1 => if l.length ≤ 16777216 then .ok (.lst l) st1 else .bad
@[simp] def fNew (g : AF) : EF := fun sg st => (g sg st).bind fun l st1 => if l.length ≤ 16777216 then .ok (.loc st1.length) (st1 ++ [.lst l]) else .bad
theorem le_line {n : Nat} : n ≤ 16777216 ↔ n ≤ sizeLine := by rw [sizeLine_eq]
theorem se_tup {x1} (h : SA X W es g) : SE X W (.Tuple es x1 pos) (fTup g) :=
  pe_weak (pe_tup h) fun σ H Q ⟨m, sg, st, e, rm, rs, hp⟩ => ⟨m, sg, st, e, rm, rs, hp.bindc fun m1 l vs st1 e1 r1 q1 hp1 => by
    split at hp1
    · rename_i hl
      refine ⟨by rw [← q1.length]; exact le_line.mp hl, hp1.lay (α := D) r1 fun p hn => ?_⟩
      exact .tup (.of upd_same) (q1.mono (Ext.lay r1 hn))
    · exact False.elim hp1⟩
theorem se_lst (h : SA X W es g) : SE X W (.List es pos) (fLst g) :=
  pe_weak (pe_lst h) fun σ H Q ⟨m, sg, st, e, rm, rs, hp⟩ => ⟨m, sg, st, e, rm, rs, hp.bindc fun m1 l vs st1 e1 r1 q1 hp1 => by
    split at hp1
    · rename_i hl
      refine ⟨by rw [← q1.length]; exact le_line.mp hl, hp1.lay (α := D) r1 fun p hn => ?_⟩
      exact .lst upd_same (q1.mono (Ext.lay r1 hn))
    · exact False.elim hp1⟩
theorem se_new (h : SA X W es g) : SE X W (.List es pos) (fNew g) :=
  pe_weak (pe_lst h) fun σ H Q ⟨m, sg, st, e, rm, rs, hp⟩ => ⟨m, sg, st, e, rm, rs, hp.bindc fun m1 l vs st1 e1 r1 q1 hp1 => by
    split at hp1
    · rename_i hl
      refine ⟨by rw [← q1.length]; exact le_line.mp hl, fun p hn => ?_⟩
      refine hp1 (m1.new p (.lst vs)) (.ref p) (Ext.new r1 hn) (r1.new hn ⟨vs, upd_same, q1.mono (Ext.new (o := .lst vs) r1 hn)⟩) (.loc ?_)
      show (m1.r ++ [p])[st1.length]? = some p
      rw [← r1.len, List.getElem?_append_right (Nat.le_refl _)]
      simp
    · exact False.elim hp1⟩
end
end Sh
/-! Part C: what the operators mean. -/
namespace Sh
open PySem L2

/-! ints -/
def mulOk (i j : Int) : Prop := i.natAbs.log2 + j.natAbs.log2 < 1000000
instance (i j : Int) : Decidable (mulOk i j) := by unfold mulOk; infer_instance
def divOk (j : Int) : Prop := j.natAbs.log2 < 9000
instance (j : Int) : Decidable (divOk j) := by unfold divOk; infer_instance
def powOk (i j : Int) : Prop := 0 ≤ j ∧ ((i.natAbs.log2 + 1 : Nat) : Int) * j ≤ 2 ^ 27
instance (i j : Int) : Decidable (powOk i j) := by unfold powOk; infer_instance
theorem log2_lt' {n k : Nat} (h : n < 2 ^ k) (hk : 0 < k) : n.log2 < k := PySem.Flt.log2_lt_of hk h
theorem mulOk_of {i j : Int} {a b : Nat} (ha : i.natAbs < 2 ^ a) (hb : j.natAbs < 2 ^ b) (h0 : 0 < a) (h1 : 0 < b) (h : a + b ≤ 1000000) : mulOk i j := by
  have x := log2_lt' ha h0
  have y := log2_lt' hb h1
  unfold mulOk; omega
theorem divOk_of {j : Int} {b : Nat} (hb : j.natAbs < 2 ^ b) (h1 : 0 < b) (h : b ≤ 9000) : divOk j := by
  have y := log2_lt' hb h1
  unfold divOk; omega
theorem bits_le (x : Int) : Builtin.Int.intBits x ≤ x.natAbs.log2 + 1 := by
  unfold Builtin.Int.intBits
  split <;> omega
theorem op_powW {X : Cx} : OpR X (binaryOp .Pow) (rI powOk fun i j => .int (i ^ j.toNat)) := opI fun i j _ _ _ _ _ hc q => by
  refine PyProof.Rows.pow_int hc.1 ?_ q
  have h := hc.2
  have b := bits_le i
  have b' : (Builtin.Int.intBits i : Int) ≤ ((i.natAbs.log2 + 1 : Nat) : Int) := by exact_mod_cast b
  exact Int.le_trans (Int.mul_le_mul_of_nonneg_right b' hc.1) h
theorem op_fdivA {X : Cx} : OpR X (binaryOp .FloorDiv) (rI (fun _ j => j ≠ 0 ∧ divOk j) fun i j => .int (i.fdiv j)) := opI fun i j _ _ _ _ _ hc q =>
  PyProof.Rows.floordiv_int hc.1 q (.inl (PyProof.noPylong_of_log2 hc.2))

def dAdd : D → D → Sto → Res D
  | .int i, .int j, st => .ok (.int (i + j)) st
  | .int i, .bl b, st => .ok (.int (i + PyProof.Rows.b2i b)) st
  | .str x, .str y, st => if x.length + y.length ≤ 16777216 then .ok (.str (x ++ y)) st else .bad
  | .lst x, .lst y, st => if x.length + y.length ≤ 16777216 then .ok (.lst (x ++ y)) st else .bad
  | .tup x, .tup y, st => if x.length + y.length ≤ 16777216 then .ok (.tup (x ++ y)) st else .bad
  | _, _, _ => .bad
def dSub : D → D → Sto → Res D
  | .int i, .int j, st => .ok (.int (i - j)) st
  | _, _, _ => .bad
def dMul : D → D → Sto → Res D
  | .int i, .int j, st => if mulOk i j then .ok (.int (i * j)) st else .bad
  | _, _, _ => .bad
def dDiv : D → D → Sto → Res D
  | .int i, .int j, st => if 0 < j ∧ divOk j then .ok (.int (i / j)) st else if j < 0 ∧ divOk j then .ok (.int (i.fdiv j)) st else .bad
  | _, _, _ => .bad
def dMod : D → D → Sto → Res D
  | .int i, .int j, st => if 0 < j then .ok (.int (i % j)) st else if j < 0 then .ok (.int (i.fmod j)) st else .bad
  | _, _, _ => .bad
def dPow : D → D → Sto → Res D
  | .int i, .int j, st => if powOk i j then .ok (.int (i ^ j.toNat)) st else .bad
  | _, _, _ => .bad
def dNeg : D → Sto → Res D
  | .int i, st => .ok (.int (-i)) st
  | _, _ => .bad
def dCmpI (p : Int → Int → Bool) : D → D → Sto → Res D
  | .int i, .int j, st => .ok (.bl (p i j)) st
  | _, _, _ => .bad
abbrev dLt := dCmpI fun i j => decide (i < j)
abbrev dLe := dCmpI fun i j => decide (i ≤ j)
abbrev dGt := dCmpI fun i j => decide (j < i)
abbrev dGe := dCmpI fun i j => decide (j ≤ i)

section
variable {X : Cx} {W : We}
abbrev rAddA : R2 := fun x y H Q => (∃ i j, x = .int i ∧ y = .int j ∧ Q (.int (i + j)) H) ∨ (∃ i k, x = .int i ∧ y = .bl k ∧ Q (.int (i + PyProof.Rows.b2i k)) H) ∨
  (∃ i j, x = .str i ∧ y = .str j ∧ i.length + j.length ≤ sizeLine ∧ Q (.str (i ++ j)) H) ∨ rCat x y H Q
theorem fits_add : Fits2 X W (fun x y H Q => rAddA x y H Q ∨ rCatA X.K x y H Q) dAdd := by
  intro m st σ x y v w Q rm ra rb hp
  unfold dAdd at hp
  split at hp
  · cases ra; cases rb; exact .inl (.inl ⟨_, _, rfl, rfl, hp.okc rm (.int _)⟩)
  · cases ra; cases rb; exact .inl (.inr (.inl ⟨_, _, rfl, rfl, hp.okc rm (.int _)⟩))
  · cases ra; cases rb
    split at hp
    · rename_i h
      exact .inl (.inr (.inr (.inl ⟨_, _, rfl, rfl, le_line.mp h, hp.okc rm (.str _)⟩)))
    · exact False.elim hp
  · split at hp
    · rename_i h
      cases ra with
      | lst h1 h2 =>
        cases rb with
        | lst h3 h4 =>
          refine .inl (.inr (.inr (.inr ⟨_, _, _, _, rfl, rfl, rm.sub _ _ h1, rm.sub _ _ h3, ?_, hp.lay (α := D) rm fun p hn => ?_⟩)))
          · rw [← h2.length, ← h4.length]; exact le_line.mp h
          · exact .lst upd_same ((h2.append h4).mono (Ext.lay rm hn))
    · exact False.elim hp
  · split at hp
    · rename_i h
      cases ra with
      | tup h1 h2 =>
        cases rb with
        | tup h3 h4 =>
          refine .inr ⟨_, _, _, _, rfl, rfl, sqT_mono rm.sub h1, sqT_mono rm.sub h3, ?_, fun z => ?_, fun _ z => ?_, fun _ _ => hp.lay (α := D) rm fun p hn => .tup (.of upd_same) ((h2.append h4).mono (Ext.lay rm hn))⟩
          · rw [← h2.length, ← h4.length]; exact le_line.mp h
          · subst z
            cases h2
            exact hp.okc rm (.tup h3 h4)
          · subst z
            cases h4
            rw [List.append_nil] at hp
            exact hp.okc rm (.tup h1 h2)
    · exact False.elim hp
  · exact False.elim hp
theorem op_addA : OpR X (binaryOp .Add) (fun x y H Q => rAddA x y H Q ∨ rCatA X.K x y H Q) :=
  (op_add.or (op_add_ib.or (op_add_str.or op_cat))).or op_catA
theorem fits_sub : Fits2 X W (rI0 fun i j => .int (i - j)) dSub := by
  intro m st σ x y v w Q rm ra rb hp
  unfold dSub at hp
  split at hp
  · cases ra; cases rb; exact ⟨_, _, rfl, rfl, hp.okc rm (.int _)⟩
  · exact False.elim hp
theorem fits_mul : Fits2 X W (rI CMulW fun i j => .int (i * j)) dMul := by
  intro m st σ x y v w Q rm ra rb hp
  unfold dMul at hp
  split at hp
  · split at hp
    · rename_i h
      cases ra; cases rb; exact ⟨_, _, rfl, rfl, h, hp.okc rm (.int _)⟩
    · exact False.elim hp
  · exact False.elim hp
theorem fits_div : Fits2 X W (rI (fun _ j => j ≠ 0 ∧ divOk j) fun i j => .int (i.fdiv j)) dDiv := by
  intro m st σ x y v w Q rm ra rb hp
  unfold dDiv at hp
  split at hp
  · rename_i st' i j
    cases ra; cases rb
    split at hp
    · rename_i h
      refine ⟨_, _, rfl, rfl, ⟨by omega, h.2⟩, ?_⟩
      have e : i.fdiv j = i / j := Int.fdiv_eq_ediv_of_nonneg i (by omega)
      show Q (V.int _) _
      rw [e]
      exact hp.okc rm (.int _)
    · split at hp
      · rename_i h
        exact ⟨_, _, rfl, rfl, ⟨by omega, h.2⟩, hp.okc rm (.int _)⟩
      · exact False.elim hp
  · exact False.elim hp
theorem fits_mod : Fits2 X W (rI (fun _ j => j ≠ 0) fun i j => .int (i.fmod j)) dMod := by
  intro m st σ x y v w Q rm ra rb hp
  unfold dMod at hp
  split at hp
  · rename_i st' i j
    cases ra; cases rb
    split at hp
    · rename_i h
      refine ⟨_, _, rfl, rfl, by omega, ?_⟩
      have e : i.fmod j = i % j := Int.fmod_eq_emod_of_nonneg i (by omega)
      show Q (V.int _) _
      rw [e]
      exact hp.okc rm (.int _)
    · split at hp
      · rename_i h
        exact ⟨_, _, rfl, rfl, by omega, hp.okc rm (.int _)⟩
      · exact False.elim hp
  · exact False.elim hp
theorem fits_pow : Fits2 X W (rI powOk fun i j => .int (i ^ j.toNat)) dPow := by
  intro m st σ x y v w Q rm ra rb hp
  unfold dPow at hp
  split at hp
  · split at hp
    · rename_i h
      cases ra; cases rb; exact ⟨_, _, rfl, rfl, h, hp.okc rm (.int _)⟩
    · exact False.elim hp
  · exact False.elim hp
theorem fits_neg : Fits1 X W (rU fun i => .int (-i)) dNeg := by
  intro m st σ x v Q rm ra hp
  unfold dNeg at hp
  split at hp
  · cases ra; exact ⟨_, rfl, hp.okc rm (.int _)⟩
  · exact False.elim hp
theorem fits_cmpI {p : Int → Int → Bool} : Fits2 X W (rI0 fun i j => .bl (p i j)) (dCmpI p) := by
  intro m st σ x y v w Q rm ra rb hp
  unfold dCmpI at hp
  split at hp
  · cases ra; cases rb; exact ⟨_, _, rfl, rfl, hp.okc rm (.bl _)⟩
  · exact False.elim hp
end

/-! == of data -/
mutual
def toPy : D → Option PyData
  | .non => some .none
  | .bl b => some (.bool b)
  | .int i => some (.int i)
  | .str x => some (.str x)
  | .tup l => (toPys l).map .tuple
  | .lst l => (toPys l).map .list
  | _ => none
def toPys : List D → Option (List PyData)
  | [] => some []
  | x :: l => match toPy x, toPys l with
    | some d, some ds => some (d :: ds)
    | _, _ => none
end
mutual
def dEqv : D → D → Bool
  | .non, .non => true
  | .bl a, .bl b => a == b
  | .bl a, .int j => (if a then 1 else 0) == j
  | .int i, .bl b => i == (if b then 1 else 0)
  | .int i, .int j => i == j
  | .str x, .str y => x == y
  | .tup l, .tup l' => dEqvs l l'
  | .lst l, .lst l' => dEqvs l l'
  | _, _ => false
def dEqvs : List D → List D → Bool
  | [], [] => true
  | x :: l, y :: l' => dEqv x y && dEqvs l l'
  | _, _ => false
end
@[simp] theorem dEqv_x0 (a' : Bool) : dEqv (.non) (.bl a') = false := rfl
@[simp] theorem dEqv_x1 (i' : Int) : dEqv (.non) (.int i') = false := rfl
@[simp] theorem dEqv_x2 (x' : Str) : dEqv (.non) (.str x') = false := rfl
@[simp] theorem dEqv_x3 (l' : List D) : dEqv (.non) (.tup l') = false := rfl
@[simp] theorem dEqv_x4 (l' : List D) : dEqv (.non) (.lst l') = false := rfl
@[simp] theorem dEqv_x5 (c' : Nat) (l' : List D) : dEqv (.non) (.ins c' l') = false := rfl
@[simp] theorem dEqv_x6 (n' : Nat) : dEqv (.non) (.loc n') = false := rfl
@[simp] theorem dEqv_x7 (l' : List Int) : dEqv (.non) (.scr l') = false := rfl
@[simp] theorem dEqv_x8 : dEqv (.non) (.edict) = false := rfl
@[simp] theorem dEqv_x9 (a : Bool) : dEqv (.bl a) (.non) = false := rfl
@[simp] theorem dEqv_x10 (a : Bool) (x' : Str) : dEqv (.bl a) (.str x') = false := rfl
@[simp] theorem dEqv_x11 (a : Bool) (l' : List D) : dEqv (.bl a) (.tup l') = false := rfl
@[simp] theorem dEqv_x12 (a : Bool) (l' : List D) : dEqv (.bl a) (.lst l') = false := rfl
@[simp] theorem dEqv_x13 (a : Bool) (c' : Nat) (l' : List D) : dEqv (.bl a) (.ins c' l') = false := rfl
@[simp] theorem dEqv_x14 (a : Bool) (n' : Nat) : dEqv (.bl a) (.loc n') = false := rfl
@[simp] theorem dEqv_x15 (a : Bool) (l' : List Int) : dEqv (.bl a) (.scr l') = false := rfl
@[simp] theorem dEqv_x16 (a : Bool) : dEqv (.bl a) (.edict) = false := rfl
@[simp] theorem dEqv_x17 (i : Int) : dEqv (.int i) (.non) = false := rfl
@[simp] theorem dEqv_x18 (i : Int) (x' : Str) : dEqv (.int i) (.str x') = false := rfl
@[simp] theorem dEqv_x19 (i : Int) (l' : List D) : dEqv (.int i) (.tup l') = false := rfl
@[simp] theorem dEqv_x20 (i : Int) (l' : List D) : dEqv (.int i) (.lst l') = false := rfl
@[simp] theorem dEqv_x21 (i : Int) (c' : Nat) (l' : List D) : dEqv (.int i) (.ins c' l') = false := rfl
@[simp] theorem dEqv_x22 (i : Int) (n' : Nat) : dEqv (.int i) (.loc n') = false := rfl
@[simp] theorem dEqv_x23 (i : Int) (l' : List Int) : dEqv (.int i) (.scr l') = false := rfl
@[simp] theorem dEqv_x24 (i : Int) : dEqv (.int i) (.edict) = false := rfl
@[simp] theorem dEqv_x25 (x : Str) : dEqv (.str x) (.non) = false := rfl
@[simp] theorem dEqv_x26 (x : Str) (a' : Bool) : dEqv (.str x) (.bl a') = false := rfl
@[simp] theorem dEqv_x27 (x : Str) (i' : Int) : dEqv (.str x) (.int i') = false := rfl
@[simp] theorem dEqv_x28 (x : Str) (l' : List D) : dEqv (.str x) (.tup l') = false := rfl
@[simp] theorem dEqv_x29 (x : Str) (l' : List D) : dEqv (.str x) (.lst l') = false := rfl
@[simp] theorem dEqv_x30 (x : Str) (c' : Nat) (l' : List D) : dEqv (.str x) (.ins c' l') = false := rfl
@[simp] theorem dEqv_x31 (x : Str) (n' : Nat) : dEqv (.str x) (.loc n') = false := rfl
@[simp] theorem dEqv_x32 (x : Str) (l' : List Int) : dEqv (.str x) (.scr l') = false := rfl
@[simp] theorem dEqv_x33 (x : Str) : dEqv (.str x) (.edict) = false := rfl
@[simp] theorem dEqv_x34 (l : List D) : dEqv (.tup l) (.non) = false := rfl
@[simp] theorem dEqv_x35 (l : List D) (a' : Bool) : dEqv (.tup l) (.bl a') = false := rfl
@[simp] theorem dEqv_x36 (l : List D) (i' : Int) : dEqv (.tup l) (.int i') = false := rfl
@[simp] theorem dEqv_x37 (l : List D) (x' : Str) : dEqv (.tup l) (.str x') = false := rfl
@[simp] theorem dEqv_x38 (l : List D) (l' : List D) : dEqv (.tup l) (.lst l') = false := rfl
@[simp] theorem dEqv_x39 (l : List D) (c' : Nat) (l' : List D) : dEqv (.tup l) (.ins c' l') = false := rfl
@[simp] theorem dEqv_x40 (l : List D) (n' : Nat) : dEqv (.tup l) (.loc n') = false := rfl
@[simp] theorem dEqv_x41 (l : List D) (l' : List Int) : dEqv (.tup l) (.scr l') = false := rfl
@[simp] theorem dEqv_x42 (l : List D) : dEqv (.tup l) (.edict) = false := rfl
@[simp] theorem dEqv_x43 (l : List D) : dEqv (.lst l) (.non) = false := rfl
@[simp] theorem dEqv_x44 (l : List D) (a' : Bool) : dEqv (.lst l) (.bl a') = false := rfl
@[simp] theorem dEqv_x45 (l : List D) (i' : Int) : dEqv (.lst l) (.int i') = false := rfl
@[simp] theorem dEqv_x46 (l : List D) (x' : Str) : dEqv (.lst l) (.str x') = false := rfl
@[simp] theorem dEqv_x47 (l : List D) (l' : List D) : dEqv (.lst l) (.tup l') = false := rfl
@[simp] theorem dEqv_x48 (l : List D) (c' : Nat) (l' : List D) : dEqv (.lst l) (.ins c' l') = false := rfl
@[simp] theorem dEqv_x49 (l : List D) (n' : Nat) : dEqv (.lst l) (.loc n') = false := rfl
@[simp] theorem dEqv_x50 (l : List D) (l' : List Int) : dEqv (.lst l) (.scr l') = false := rfl
@[simp] theorem dEqv_x51 (l : List D) : dEqv (.lst l) (.edict) = false := rfl
@[simp] theorem dEqv_x52 (c : Nat) (l : List D) : dEqv (.ins c l) (.non) = false := rfl
@[simp] theorem dEqv_x53 (c : Nat) (l : List D) (a' : Bool) : dEqv (.ins c l) (.bl a') = false := rfl
@[simp] theorem dEqv_x54 (c : Nat) (l : List D) (i' : Int) : dEqv (.ins c l) (.int i') = false := rfl
@[simp] theorem dEqv_x55 (c : Nat) (l : List D) (x' : Str) : dEqv (.ins c l) (.str x') = false := rfl
@[simp] theorem dEqv_x56 (c : Nat) (l : List D) (l' : List D) : dEqv (.ins c l) (.tup l') = false := rfl
@[simp] theorem dEqv_x57 (c : Nat) (l : List D) (l' : List D) : dEqv (.ins c l) (.lst l') = false := rfl
@[simp] theorem dEqv_x58 (c : Nat) (l : List D) (n' : Nat) : dEqv (.ins c l) (.loc n') = false := rfl
@[simp] theorem dEqv_x59 (c : Nat) (l : List D) (l' : List Int) : dEqv (.ins c l) (.scr l') = false := rfl
@[simp] theorem dEqv_x60 (c : Nat) (l : List D) : dEqv (.ins c l) (.edict) = false := rfl
@[simp] theorem dEqv_x61 (n : Nat) : dEqv (.loc n) (.non) = false := rfl
@[simp] theorem dEqv_x62 (n : Nat) (a' : Bool) : dEqv (.loc n) (.bl a') = false := rfl
@[simp] theorem dEqv_x63 (n : Nat) (i' : Int) : dEqv (.loc n) (.int i') = false := rfl
@[simp] theorem dEqv_x64 (n : Nat) (x' : Str) : dEqv (.loc n) (.str x') = false := rfl
@[simp] theorem dEqv_x65 (n : Nat) (l' : List D) : dEqv (.loc n) (.tup l') = false := rfl
@[simp] theorem dEqv_x66 (n : Nat) (l' : List D) : dEqv (.loc n) (.lst l') = false := rfl
@[simp] theorem dEqv_x67 (n : Nat) (c' : Nat) (l' : List D) : dEqv (.loc n) (.ins c' l') = false := rfl
@[simp] theorem dEqv_x68 (n : Nat) (l' : List Int) : dEqv (.loc n) (.scr l') = false := rfl
@[simp] theorem dEqv_x69 (n : Nat) : dEqv (.loc n) (.edict) = false := rfl
@[simp] theorem dEqv_x70 (l : List Int) : dEqv (.scr l) (.non) = false := rfl
@[simp] theorem dEqv_x71 (l : List Int) (a' : Bool) : dEqv (.scr l) (.bl a') = false := rfl
@[simp] theorem dEqv_x72 (l : List Int) (i' : Int) : dEqv (.scr l) (.int i') = false := rfl
@[simp] theorem dEqv_x73 (l : List Int) (x' : Str) : dEqv (.scr l) (.str x') = false := rfl
@[simp] theorem dEqv_x74 (l : List Int) (l' : List D) : dEqv (.scr l) (.tup l') = false := rfl
@[simp] theorem dEqv_x75 (l : List Int) (l' : List D) : dEqv (.scr l) (.lst l') = false := rfl
@[simp] theorem dEqv_x76 (l : List Int) (c' : Nat) (l' : List D) : dEqv (.scr l) (.ins c' l') = false := rfl
@[simp] theorem dEqv_x77 (l : List Int) (n' : Nat) : dEqv (.scr l) (.loc n') = false := rfl
@[simp] theorem dEqv_x78 (l : List Int) : dEqv (.scr l) (.edict) = false := rfl
@[simp] theorem dEqv_x79 : dEqv (.edict) (.non) = false := rfl
@[simp] theorem dEqv_x80 (a' : Bool) : dEqv (.edict) (.bl a') = false := rfl
@[simp] theorem dEqv_x81 (i' : Int) : dEqv (.edict) (.int i') = false := rfl
@[simp] theorem dEqv_x82 (x' : Str) : dEqv (.edict) (.str x') = false := rfl
@[simp] theorem dEqv_x83 (l' : List D) : dEqv (.edict) (.tup l') = false := rfl
@[simp] theorem dEqv_x84 (l' : List D) : dEqv (.edict) (.lst l') = false := rfl
@[simp] theorem dEqv_x85 (c' : Nat) (l' : List D) : dEqv (.edict) (.ins c' l') = false := rfl
@[simp] theorem dEqv_x86 (n' : Nat) : dEqv (.edict) (.loc n') = false := rfl
@[simp] theorem dEqv_x87 (l' : List Int) : dEqv (.edict) (.scr l') = false := rfl
@[simp] theorem dEqv_nn : dEqv .non .non = true := rfl
@[simp] theorem dEqv_bb (a b : Bool) : dEqv (.bl a) (.bl b) = (a == b) := rfl
@[simp] theorem dEqv_bi (a : Bool) (j : Int) : dEqv (.bl a) (.int j) = ((if a then 1 else 0) == j) := rfl
@[simp] theorem dEqv_ib (i : Int) (b : Bool) : dEqv (.int i) (.bl b) = (i == (if b then 1 else 0)) := rfl
@[simp] theorem dEqv_ii (i j : Int) : dEqv (.int i) (.int j) = (i == j) := rfl
@[simp] theorem dEqv_ss (x y : Str) : dEqv (.str x) (.str y) = (x == y) := rfl
@[simp] theorem dEqv_tt (l m : List D) : dEqv (.tup l) (.tup m) = dEqvs l m := rfl
@[simp] theorem dEqv_ll (l m : List D) : dEqv (.lst l) (.lst m) = dEqvs l m := rfl
@[simp] theorem dEqvs_nn : dEqvs [] [] = true := rfl
@[simp] theorem dEqvs_cc (x y : D) (l m : List D) : dEqvs (x :: l) (y :: m) = (dEqv x y && dEqvs l m) := rfl
@[simp] theorem dEqvs_nc (y : D) (m : List D) : dEqvs [] (y :: m) = false := rfl
@[simp] theorem dEqvs_cn (y : D) (m : List D) : dEqvs (y :: m) [] = false := rfl
theorem toPys_cons {x : D} {l : List D} {ds : List PyData} (h : toPys (x :: l) = some ds) : ∃ d r, ds = d :: r ∧ toPy x = some d ∧ toPys l = some r := by
  unfold toPys at h
  split at h
  · rename_i d r h1 h2
    exact ⟨d, r, (Option.some.inj h).symm, h1, h2⟩
  · cases h
theorem toPy_tup {l : List D} {d : PyData} (h : toPy (.tup l) = some d) : ∃ ds, d = .tuple ds ∧ toPys l = some ds := by
  unfold toPy at h
  obtain ⟨ds, h1, h2⟩ := Option.map_eq_some_iff.mp h
  exact ⟨ds, h2.symm, h1⟩
theorem toPy_lst {l : List D} {d : PyData} (h : toPy (.lst l) = some d) : ∃ ds, d = .list ds ∧ toPys l = some ds := by
  unfold toPy at h
  obtain ⟨ds, h1, h2⟩ := Option.map_eq_some_iff.mp h
  exact ⟨ds, h2.symm, h1⟩
mutual
theorem dEqv_py : ∀ (x y : D) (d e : PyData), toPy x = some d → toPy y = some e → dEqv x y = PyData.eqv d e
  | .non, y, d, e, hd, he => by
    cases (Option.some.inj (by simpa [toPy] using hd) : PyData.none = d)
    cases y <;> first | (simp [toPy] at he; done) | (obtain ⟨ds, rfl, _⟩ := toPy_tup he; simp [dEqv, PyData.eqv]) | (obtain ⟨ds, rfl, _⟩ := toPy_lst he; simp [dEqv, PyData.eqv]) | (simp [toPy] at he; subst he; simp [dEqv, PyData.eqv])
  | .bl b, y, d, e, hd, he => by
    cases (Option.some.inj (by simpa [toPy] using hd) : PyData.bool b = d)
    cases y <;> first | (simp [toPy] at he; done) | (obtain ⟨ds, rfl, _⟩ := toPy_tup he; simp [dEqv, PyData.eqv]) | (obtain ⟨ds, rfl, _⟩ := toPy_lst he; simp [dEqv, PyData.eqv]) | (simp [toPy] at he; subst he; simp [dEqv, PyData.eqv])
  | .int b, y, d, e, hd, he => by
    cases (Option.some.inj (by simpa [toPy] using hd) : PyData.int b = d)
    cases y <;> first | (simp [toPy] at he; done) | (obtain ⟨ds, rfl, _⟩ := toPy_tup he; simp [dEqv, PyData.eqv]) | (obtain ⟨ds, rfl, _⟩ := toPy_lst he; simp [dEqv, PyData.eqv]) | (simp [toPy] at he; subst he; simp [dEqv, PyData.eqv])
  | .str b, y, d, e, hd, he => by
    cases (Option.some.inj (by simpa [toPy] using hd) : PyData.str b = d)
    cases y <;> first | (simp [toPy] at he; done) | (obtain ⟨ds, rfl, _⟩ := toPy_tup he; simp [dEqv, PyData.eqv]) | (obtain ⟨ds, rfl, _⟩ := toPy_lst he; simp [dEqv, PyData.eqv]) | (simp [toPy] at he; subst he; simp [dEqv, PyData.eqv])
  | .tup l, y, d, e, hd, he => by
    obtain ⟨ds, rfl, h1⟩ := toPy_tup hd
    cases y with
    | tup l' =>
      obtain ⟨es, rfl, h2⟩ := toPy_tup he
      simp only [dEqv, PyData.eqv]
      exact dEqvs_py l l' ds es h1 h2
    | lst l' => obtain ⟨es, rfl, h2⟩ := toPy_lst he; simp [dEqv, PyData.eqv]
    | _ => first | (simp [toPy] at he; done) | (simp [toPy] at he; subst he; simp [dEqv, PyData.eqv])
  | .lst l, y, d, e, hd, he => by
    obtain ⟨ds, rfl, h1⟩ := toPy_lst hd
    cases y with
    | lst l' =>
      obtain ⟨es, rfl, h2⟩ := toPy_lst he
      simp only [dEqv, PyData.eqv]
      exact dEqvs_py l l' ds es h1 h2
    | tup l' => obtain ⟨es, rfl, h2⟩ := toPy_tup he; simp [dEqv, PyData.eqv]
    | _ => first | (simp [toPy] at he; done) | (simp [toPy] at he; subst he; simp [dEqv, PyData.eqv])
  | .ins _ _, _, _, _, hd, _ => by simp [toPy] at hd
  | .edict, _, _, _, hd, _ => by simp [toPy] at hd
  | .loc _, _, _, _, hd, _ => by simp [toPy] at hd
  | .scr _, _, _, _, hd, _ => by simp [toPy] at hd
theorem dEqvs_py : ∀ (l l' : List D) (ds es : List PyData), toPys l = some ds → toPys l' = some es → dEqvs l l' = PyData.eqvAll ds es
  | [], l', ds, es, hd, he => by
    cases (Option.some.inj (by simpa [toPys] using hd) : [] = ds)
    cases l' with
    | nil => cases (Option.some.inj (by simpa [toPys] using he) : [] = es); simp [dEqvs, PyData.eqvAll]
    | cons y l' => obtain ⟨e, r, rfl, _⟩ := toPys_cons he; simp [dEqvs, PyData.eqvAll]
  | x :: l, l', ds, es, hd, he => by
    obtain ⟨d, r, rfl, h1, h2⟩ := toPys_cons hd
    cases l' with
    | nil => cases (Option.some.inj (by simpa [toPys] using he) : [] = es); simp [dEqvs, PyData.eqvAll]
    | cons y l' =>
      obtain ⟨e, r', rfl, h3, h4⟩ := toPys_cons he
      simp only [dEqvs, PyData.eqvAll]
      rw [dEqv_py x y d e h1 h3, dEqvs_py l l' r r' h2 h4]
end
section
variable {X : Cx} {W : We}
mutual
theorem dp_of {K : PySem.W.Frag} {mg : Str → Option Value} {r : List Addr} {G H : Hp} (sub : ∀ a o, G a = some o → H a = some o) : ∀ (x : D) (v : V) (d : PyData), Rep K mg r G x v → toPy x = some d → Dp K H v d
  | .non, _, _, h, e => by cases h; cases (Option.some.inj (by simpa [toPy] using e) : PyData.none = _); exact .non
  | .bl b, _, _, h, e => by cases h; cases (Option.some.inj (by simpa [toPy] using e) : PyData.bool b = _); exact .bl b
  | .int b, _, _, h, e => by cases h; cases (Option.some.inj (by simpa [toPy] using e) : PyData.int b = _); exact .int b
  | .str b, _, _, h, e => by cases h; cases (Option.some.inj (by simpa [toPy] using e) : PyData.str b = _); exact .str b
  | .tup l, _, _, h, e => by
    obtain ⟨ds, rfl, h1⟩ := toPy_tup e
    cases h with
    | tup h2 h3 => exact .tup (sqT_mono sub h2) (dps_of sub l _ _ h3 h1)
  | .lst l, _, _, h, e => by
    obtain ⟨ds, rfl, h1⟩ := toPy_lst e
    cases h with
    | lst h2 h3 => exact .lst (.of (sub _ _ h2)) (dps_of sub l _ _ h3 h1)
  | .ins _ _, _, _, _, e => by simp [toPy] at e
  | .edict, _, _, _, e => by simp [toPy] at e
  | .loc _, _, _, _, e => by simp [toPy] at e
  | .scr _, _, _, _, e => by simp [toPy] at e
theorem dps_of {K : PySem.W.Frag} {mg : Str → Option Value} {r : List Addr} {G H : Hp} (sub : ∀ a o, G a = some o → H a = some o) : ∀ (l : List D) (vs : List V) (ds : List PyData), Reps K mg r G l vs → toPys l = some ds → DpAll K H vs ds
  | [], _, _, h, e => by cases h; cases (Option.some.inj (by simpa [toPys] using e) : [] = _); exact .nil
  | x :: l, _, _, h, e => by
    obtain ⟨d, q, rfl, h1, h2⟩ := toPys_cons e
    cases h with
    | cons h3 h4 => exact .cons (dp_of sub x _ _ h3 h1) (dps_of sub l _ _ h4 h2)
end
def eqOk (x y : D) : Bool := match toPy x, toPy y with
  | some d, some e => decide (min d.depth e.depth ≤ 64)
  | _, _ => false
mutual
theorem toPy_plain : ∀ (x : D) (d : PyData), toPy x = some d → d.plain = true
  | .non, d, e => by cases (Option.some.inj (by simpa [toPy] using e) : PyData.none = d); rfl
  | .bl b, d, e => by cases (Option.some.inj (by simpa [toPy] using e) : PyData.bool b = d); rfl
  | .int b, d, e => by cases (Option.some.inj (by simpa [toPy] using e) : PyData.int b = d); rfl
  | .str b, d, e => by cases (Option.some.inj (by simpa [toPy] using e) : PyData.str b = d); rfl
  | .tup l, d, e => by
    obtain ⟨ds, rfl, h1⟩ := toPy_tup e
    exact toPys_plain l ds h1
  | .lst l, d, e => by
    obtain ⟨ds, rfl, h1⟩ := toPy_lst e
    exact toPys_plain l ds h1
  | .ins _ _, _, e => by simp [toPy] at e
  | .edict, _, e => by simp [toPy] at e
  | .loc _, _, e => by simp [toPy] at e
  | .scr _, _, e => by simp [toPy] at e
theorem toPys_plain : ∀ (l : List D) (ds : List PyData), toPys l = some ds → PyData.plainAll ds = true
  | [], ds, e => by cases (Option.some.inj (by simpa [toPys] using e) : [] = ds); rfl
  | x :: l, ds, e => by
    obtain ⟨d, r, rfl, h1, h2⟩ := toPys_cons e
    show (d.plain && PyData.plainAll r) = true
    rw [toPy_plain x d h1, toPys_plain l r h2]
    rfl
end
def rEqP (K : PySem.W.Frag) : R2 := fun x y H Q => ∃ d e, Dp K H x d ∧ Dp K H y e ∧ d.plain = true ∧ e.plain = true ∧ min d.depth e.depth ≤ 64 ∧ Q (.bl (PyData.eqv d e)) H
def rNeP (K : PySem.W.Frag) : R2 := fun x y H Q => ∃ d e, Dp K H x d ∧ Dp K H y e ∧ d.plain = true ∧ e.plain = true ∧ min d.depth e.depth ≤ 64 ∧ Q (.bl (!PyData.eqv d e)) H
theorem op_eqP (hu : X.A.units + 64 < cLine) : OpR X (compareOp .Eq) (rEqP X.K) := by
  intro pins s σ H x y v u Q I rx ry h
  obtain ⟨d, e, hd, he, sd, se, hz, q⟩ := h
  obtain ⟨as, r1⟩ := Dp.reads I d x v hd rx
  obtain ⟨bs, r2⟩ := Dp.reads I e y u he ry
  exact SeqAt.eq_plain r1 r2 sd se (by omega) ⟨.bl _, H, I, rfl, q⟩
theorem op_neP (hu : X.A.units + 64 < cLine) : OpR X (compareOp .NotEq) (rNeP X.K) := by
  intro pins s σ H x y v u Q I rx ry h
  obtain ⟨d, e, hd, he, sd, se, hz, q⟩ := h
  obtain ⟨as, r1⟩ := Dp.reads I d x v hd rx
  obtain ⟨bs, r2⟩ := Dp.reads I e y u he ry
  exact SeqAt.ne_plain r1 r2 sd se (by omega) ⟨.bl _, H, I, rfl, q⟩
/-- a list of the store, as it stands -/
def resD (st : Sto) : D → D
  | .loc n => match st[n]? with
    | some (.lst l) => .lst l
    | _ => .loc n
  | x => x
theorem res_dp {m : Hw} {st : Sto} {x : D} {v : V} {d : PyData} (rm : Rel X.K X.mg m st) (h : Rep X.K X.mg m.r m.g x v) (e : toPy (resD st x) = some d) : Dp X.K m.h v d := by
  unfold resD at e
  split at e
  · rename_i n
    cases h with
    | loc h1 =>
      split at e
      · rename_i l hl
        obtain ⟨vs, h2, h3⟩ := rm.obj _ _ _ h1 hl
        obtain ⟨ds, rfl, e1⟩ := toPy_lst e
        exact .lst (.of h2) (dps_of rm.sub l _ _ h3 e1)
      · simp [toPy] at e
  · exact dp_of rm.sub _ _ _ h e
def dEq (x y : D) (st : Sto) : Res D := if eqOk (resD st x) (resD st y) = true then .ok (.bl (dEqv (resD st x) (resD st y))) st else .bad
def dNe (x y : D) (st : Sto) : Res D := if eqOk (resD st x) (resD st y) = true then .ok (.bl (!dEqv (resD st x) (resD st y))) st else .bad
theorem eqOk_get {x y : D} (h : eqOk x y = true) : ∃ d e, toPy x = some d ∧ toPy y = some e ∧ min d.depth e.depth ≤ 64 := by
  unfold eqOk at h
  split at h
  · rename_i d e h1 h2
    exact ⟨d, e, h1, h2, of_decide_eq_true h⟩
  · cases h
theorem fits_eq : Fits2 X W (rEqP X.K) dEq := by
  intro m st σ x y v w Q rm ra rb hp
  unfold dEq at hp
  split at hp
  · rename_i h
    obtain ⟨d, e, h1, h2, h3⟩ := eqOk_get h
    rw [dEqv_py _ _ d e h1 h2] at hp
    exact ⟨d, e, res_dp rm ra h1, res_dp rm rb h2, toPy_plain _ _ h1, toPy_plain _ _ h2, h3, hp.okc rm (.bl _)⟩
  · exact False.elim hp
theorem fits_ne : Fits2 X W (rNeP X.K) dNe := by
  intro m st σ x y v w Q rm ra rb hp
  unfold dNe at hp
  split at hp
  · rename_i h
    obtain ⟨d, e, h1, h2, h3⟩ := eqOk_get h
    rw [dEqv_py _ _ d e h1 h2] at hp
    exact ⟨d, e, res_dp rm ra h1, res_dp rm rb h2, toPy_plain _ _ h1, toPy_plain _ _ h2, h3, hp.okc rm (.bl _)⟩
  · exact False.elim hp
/-! is None -/
def dIsN : D → D → Sto → Res D
  | x, .non, st => .ok (.bl (match x with | .non => true | _ => false)) st
  | _, _, _ => .bad
def dNotN : D → D → Sto → Res D
  | x, .non, st => .ok (.bl (match x with | .non => false | _ => true)) st
  | _, _, _ => .bad
theorem fits_isN : Fits2 X W (fun x y H Q => y = .non ∧ Q (.bl (decide (x = .non))) H) dIsN := by
  intro m st σ x y v w Q rm ra rb hp
  unfold dIsN at hp
  split at hp
  · cases rb
    refine ⟨rfl, ?_⟩
    have q := hp.okc rm (.bl _)
    cases ra <;> simpa using q
  · exact False.elim hp
theorem fits_notN : Fits2 X W (fun x y H Q => y = .non ∧ Q (.bl (!decide (x = .non))) H) dNotN := by
  intro m st σ x y v w Q rm ra rb hp
  unfold dNotN at hp
  split at hp
  · cases rb
    refine ⟨rfl, ?_⟩
    have q := hp.okc rm (.bl _)
    cases ra <;> simpa using q
  · exact False.elim hp
/-! x in a list, a tuple of flat things -/
def dFlat : D → Bool
  | .non => true
  | .bl _ => true
  | .int _ => true
  | .str _ => true
  | _ => false
theorem flat_rep {m : Hw} {x : D} {v : V} (h : Rep X.K X.mg m.r m.g x v) (e : dFlat x = true) : flatV v = true := by
  cases h <;> first | rfl | (simp [dFlat] at e)
theorem flat_eq {m : Hw} {x y : D} {v w : V} (h : Rep X.K X.mg m.r m.g x v) (h' : Rep X.K X.mg m.r m.g y w) (e : dFlat x = true) (e' : dFlat y = true) : eqV v w = dEqv x y := by
  cases h <;> cases h' <;> first | rfl | (simp [dFlat] at e; done) | (simp [dFlat] at e'; done) | simp [eqV, dEqv]
theorem flats_rep {m : Hw} : ∀ {l : List D} {vs : List V}, Reps X.K X.mg m.r m.g l vs → l.all dFlat = true → vs.all flatV = true
  | [], _, h, _ => by cases h; rfl
  | x :: l, _, h, e => by
    cases h with
    | cons h1 h2 =>
      rw [List.all_cons, Bool.and_eq_true] at e
      rw [List.all_cons, flat_rep h1 e.1, flats_rep h2 e.2]; rfl
theorem flats_in {m : Hw} {x : D} {v : V} (hx : Rep X.K X.mg m.r m.g x v) (ex : dFlat x = true) : ∀ {l : List D} {vs : List V}, Reps X.K X.mg m.r m.g l vs → l.all dFlat = true → inV v vs = l.any fun y => dEqv y x
  | [], _, h, _ => by cases h; rfl
  | y :: l, _, h, e => by
    cases h with
    | cons h1 h2 =>
      rw [List.all_cons, Bool.and_eq_true] at e
      have ih := flats_in hx ex h2 e.2
      unfold inV at ih ⊢
      rw [List.any_cons, List.any_cons, flat_eq h1 hx e.1 ex, ih]
def itemsOf : D → Sto → Option (List D)
  | .lst l, _ => some l
  | .tup l, _ => some l
  | .scr l, _ => some (l.map .int)
  | .loc n, st => match st[n]? with
    | some (.lst l) => some l
    | _ => none
  | _, _ => none
theorem reps_ints {m : Hw} : ∀ l : List Int, Reps X.K X.mg m.r m.g (l.map .int) (l.map V.int)
  | [] => .nil
  | i :: l => .cons (.int i) (reps_ints l)
theorem items_of {m : Hw} {st : Sto} {x : D} {v : V} {l : List D} (rm : Rel X.K X.mg m st) (h : Rep X.K X.mg m.r m.g x v) (e : itemsOf x st = some l) : ∃ p vs, v = .ref p ∧ (SqL X.K m.h p vs ∨ SqT X.K m.h p vs) ∧ Reps X.K X.mg m.r m.g l vs := by
  unfold itemsOf at e
  split at e
  · cases e; cases h with
    | lst h1 h2 => exact ⟨_, _, rfl, .inl (.of (rm.sub _ _ h1)), h2⟩
  · cases e; cases h with
    | tup h1 h2 => exact ⟨_, _, rfl, .inr (sqT_mono rm.sub h1), h2⟩
  · cases e; cases h with
    | scr h1 => exact ⟨_, _, rfl, .inl (sqL_mono rm.sub h1), reps_ints _⟩
  · cases h with
    | loc h1 =>
      split at e
      · rename_i h2
        cases e
        obtain ⟨vs, h3, h4⟩ := rm.obj _ _ _ h1 h2
        exact ⟨_, _, rfl, .inl (.of h3), h4⟩
      · cases e
  · cases e
def dInL (neg : Bool) (x y : D) (st : Sto) : Res D := match itemsOf y st with
  | some l => if dFlat x = true ∧ l.all dFlat = true then .ok (.bl (if neg then !(l.any fun y => dEqv y x) else l.any fun y => dEqv y x)) st else .bad
  | none => .bad
theorem fits_inL {neg : Bool} : Fits2 X W (rIn X.K neg) (dInL neg) := by
  intro m st σ x y v w Q rm ra rb hp
  unfold dInL at hp
  split at hp
  · rename_i l h
    split at hp
    · rename_i hf
      obtain ⟨p, vs, rfl, hs, hr⟩ := items_of rm rb h
      refine ⟨p, vs, rfl, hs, flat_rep ra hf.1, flats_rep hr hf.2, ?_⟩
      rw [flats_in ra hf.1 hr hf.2]
      exact hp.okc rm (.bl _)
    · exact False.elim hp
  · exact False.elim hp
/-! items by place -/
def dAt (l : List D) (i : Int) : Option D := if 0 ≤ i then l[i.toNat]? else if -(l.length : Int) ≤ i then l[(i + l.length).toNat]? else none
def dIx : D → D → Sto → Res D
  | .str x, .int i, st => if x.length ≤ 16777216 then (match atI x.cps.toList i with
    | some c => .ok (.str ⟨#[c]⟩) st
    | none => .bad) else .bad
  | x, .int i, st => match itemsOf x st with
    | some l => match dAt l i with
      | some d => .ok d st
      | none => .bad
    | none => .bad
  | _, _, _ => .bad
theorem dAt_get {m : Hw} {l : List D} {vs : List V} {i : Int} {d : D} (h : Reps X.K X.mg m.r m.g l vs) (e : dAt l i = some d) : ∃ v, atI vs i = some v ∧ Rep X.K X.mg m.r m.g d v := by
  have hl := h.length
  unfold dAt at e
  split at e
  · rename_i h0
    obtain ⟨v, h1, h2⟩ := h.get e
    refine ⟨v, ?_, h2⟩
    unfold atI ixN
    have : i < (vs.length : Int) := by
      have := (List.getElem?_eq_some_iff.mp h1).1
      omega
    rw [if_pos h0, if_pos this]
    exact h1
  · rename_i h0
    split at e
    · rename_i h3
      obtain ⟨v, h1, h2⟩ := h.get e
      refine ⟨v, ?_, h2⟩
      unfold atI ixN
      rw [if_neg h0, if_pos (by rw [← hl]; exact h3), ← hl]
      exact h1
    · cases e
theorem fits_ix : Fits2 X W (rIx X.K) dIx := by
  intro m st σ x y v w Q rm ra rb hp
  unfold dIx at hp
  split at hp
  · split at hp
    · rename_i hl
      split at hp
      · rename_i c hc
        cases ra; cases rb
        exact .inr (.inr ⟨_, _, c, rfl, rfl, le_line.mp hl, hc, hp.okc rm (.str _)⟩)
      · exact False.elim hp
    · exact False.elim hp
  · split at hp
    · rename_i l h
      split at hp
      · rename_i d hd
        cases rb
        obtain ⟨p, vs, rfl, hs, hr⟩ := items_of rm ra h
        obtain ⟨u, h1, h2⟩ := dAt_get hr hd
        rcases hs with hs | hs
        · exact .inl ⟨_, _, _, _, rfl, rfl, hs, h1, hp.okc rm h2⟩
        · exact .inr (.inl ⟨_, _, _, _, rfl, rfl, hs, h1, hp.okc rm h2⟩)
      · exact False.elim hp
    · exact False.elim hp
  · exact False.elim hp
variable {a b : Expr} {fa fb : EF} {pos : Pos}
theorem se_ix (ha : SE X W a fa) (hb : SE X W b fb) (hs : PlainIx b) : SE X W (.Subscript a b pos) (fBin dIx fa fb) :=
  pe_weak (pe_ix ix_seq ha hb hs) fun _ _ _ h => tOp_of fits_ix h
end
end Sh
/-! Part D: calls, fields, objects. -/
namespace Sh
open PySem L2

/-! no place of the store within -/
mutual
@[simp] def pu : D → Bool
  | .tup l => pus l
  | .lst l => pus l
  | .ins _ l => pus l
  | .loc _ => false
  | _ => true
@[simp] def pus : List D → Bool
  | [] => true
  | x :: l => pu x && pus l
end
section
variable {K : PySem.W.Frag} {mg : Str → Option Value}
mutual
theorem rep_pu {r r' : List Addr} {G : Hp} : ∀ (d : D) (v : V), pu d = true → Rep K mg r G d v → Rep K mg r' G d v
  | .non, _, _, h => by cases h; exact .non
  | .bl b, _, _, h => by cases h; exact .bl b
  | .int i, _, _, h => by cases h; exact .int i
  | .str x, _, _, h => by cases h; exact .str x
  | .tup l, _, e, h => by
    cases h with
    | tup h1 h2 => exact .tup h1 (reps_pu l _ (by simpa using e) h2)
  | .lst l, _, e, h => by
    cases h with
    | lst h1 h2 => exact .lst h1 (reps_pu l _ (by simpa using e) h2)
  | .ins c l, _, e, h => by
    cases h with
    | ins h1 h2 h3 h4 => exact .ins h1 h2 h3 (reps_pu l _ (by simpa using e) h4)
  | .loc n, _, e, h => by simp at e
  | .scr l, _, _, h => by
    cases h with
    | scr h1 => exact .scr h1
  | .edict, _, _, h => by
    cases h with
    | edict h1 => exact .edict h1
theorem reps_pu {r r' : List Addr} {G : Hp} : ∀ (l : List D) (vs : List V), pus l = true → Reps K mg r G l vs → Reps K mg r' G l vs
  | [], _, _, h => by cases h; exact .nil
  | d :: l, _, e, h => by
    have e' : pu d = true ∧ pus l = true := by simpa using e
    cases h with
    | cons h1 h2 => exact .cons (rep_pu d _ e'.1 h1) (reps_pu l _ e'.2 h2)
end
mutual
theorem rep_cut {r t : List Addr} {G G' : Hp} : ∀ (d : D) (v v' : V), Rep K mg r G d v → Rep K mg (r ++ t) G' d v' → Rep K mg r G' d v'
  | .non, _, _, _, h => by cases h; exact .non
  | .bl b, _, _, _, h => by cases h; exact .bl b
  | .int i, _, _, _, h => by cases h; exact .int i
  | .str x, _, _, _, h => by cases h; exact .str x
  | .tup l, _, _, a, h => by
    cases h with
    | tup h1 h2 =>
      cases a with
      | tup a1 a2 => exact .tup h1 (reps_cut l _ _ a2 h2)
  | .lst l, _, _, a, h => by
    cases h with
    | lst h1 h2 =>
      cases a with
      | lst a1 a2 => exact .lst h1 (reps_cut l _ _ a2 h2)
  | .ins c l, _, _, a, h => by
    cases h with
    | ins h1 h2 h3 h4 =>
      cases a with
      | ins a1 a2 a3 a4 => exact .ins h1 h2 h3 (reps_cut l _ _ a4 h4)
  | .loc n, _, _, a, h => by
    cases h with
    | loc h1 =>
      cases a with
      | loc a1 =>
        rw [List.getElem?_append_left (List.getElem?_eq_some_iff.mp a1).1] at h1
        exact .loc h1
  | .scr l, _, _, _, h => by
    cases h with
    | scr h1 => exact .scr h1
  | .edict, _, _, _, h => by
    cases h with
    | edict h1 => exact .edict h1
theorem reps_cut {r t : List Addr} {G G' : Hp} : ∀ (l : List D) (vs vs' : List V), Reps K mg r G l vs → Reps K mg (r ++ t) G' l vs' → Reps K mg r G' l vs'
  | [], _, _, _, h => by cases h; exact .nil
  | d :: l, _, _, a, h => by
    cases h with
    | cons h1 h2 =>
      cases a with
      | cons a1 a2 => exact .cons (rep_cut d _ _ a1 h1) (reps_cut l _ _ a2 h2)
end
theorem srep_cut {r t : List Addr} {G G' H H' : Hp} {a : Addr} : ∀ {so : SO}, SRep K mg r G H a so → SRep K mg (r ++ t) G' H' a so → SRep K mg r G' H' a so
  | .lst l, ⟨vs, _, h⟩, ⟨vs', h1, h2⟩ => ⟨vs', h1, reps_cut _ _ _ h h2⟩
  | .dict l, ⟨vs, _, _, h⟩, ⟨vs', h1, h2, h3⟩ => ⟨vs', h1, h2, reps_cut _ _ _ h h3⟩
  | .ins c l, ⟨_, _, _, _, _, _, h⟩, ⟨C, dx, fs, h1, h2, h3, h4⟩ => ⟨C, dx, fs, h1, h2, h3, reps_cut _ _ _ h h4⟩
  | .lock l o kvs, ⟨_, _, h⟩, ⟨h1, h2, h3⟩ => ⟨h1, h2, reps_cut _ _ _ h h3⟩
/-- behind a scope: the store's new things are gone -/
theorem Rel.cut {m m' : Hw} {st st' : Sto} (R : Rel K mg m st) (R' : Rel K mg m' st') (e : Ext m m') (h : st'.take st.length = st) (g : Hp) (hg : ∀ a o, g a = some o → m'.h a = some o) (hr : ∀ a ∈ m.r, g a = none) (hm : ∀ a o, m'.g a = some o → g a = some o) :
    Rel K mg ⟨m.r, g, m'.h⟩ st := by
  obtain ⟨t, ht⟩ := e.pre
  refine ⟨hg, R.len, R.nd, hr, fun n a so e1 e2 => ?_⟩
  have e1 : m.r[n]? = some a := e1
  have e3 : st'[n]? = some so := by
    have hn : n < st.length := (List.getElem?_eq_some_iff.mp e2).1
    have := e2
    rw [← h, List.getElem?_take_of_lt hn] at this
    exact this
  have q := R'.obj n a so (e.at_ e1) e3
  rw [ht] at q
  exact srep_cut (R.obj n a so e1 e2) (q.mono' (fun _ _ z => z) hm fun _ z => z)
end

section
variable {X : Cx} {W : We} {e o : Expr} {es : List Expr} {f fo : EF} {g : AF} {pos p apos : Pos} {x m : Str}
/-! built-in functions -/
@[simp] def fCall (sem : List D → Sto → Res D) (g : AF) : EF := fun sg st => (g sg st).bind fun l st1 => sem l st1
def FitsL (X : Cx) (W : We) (r : List V → Hp → VK → Prop) (sem : List D → Sto → Res D) : Prop := ∀ (m : Hw) (st : Sto) (σ : St) (l : List D) (vs : List V) (Q : VK), Rel X.K X.mg m st → Reps X.K X.mg m.r m.g l vs → Post X.K X.mg W.w m σ (RD X.K X.mg) Q (sem l st) → r vs m.h Q
theorem tCB_of {r : List V → Hp → VK → Prop} {sem : List D → Sto → Res D} (hs : FitsL X W r sem) {σ : St} {H : Hp} {Q : VK} (h : TOf X.K X.mg W (RD X.K X.mg) (fCall sem g) σ H Q) : tCB r (TOf X.K X.mg W (RDs X.K X.mg) g) σ H Q := by
  obtain ⟨m, sg, st, rfl, rm, rs, hp⟩ := h
  exact ⟨m, sg, st, rfl, rm, rs, hp.bindc fun m1 l vs st1 e1 r1 q1 hp1 => hs m1 st1 σ l vs Q r1 q1 hp1⟩
theorem se_callB {id : String} {r : List V → Hp → VK → Prop} {sem : List D → Sto → Res D} (hc : CallR X (.builtin id) r) (hs : FitsL X W r sem) (hg : Gl X x) (hm : X.mg x = none) (hv : bootBuiltins x = some (.builtin id)) (ha : SA X W (e :: es) g) (hn : x ≠ "__name__" := by decide) (hdb : (x == ("__debug__" : Str)) = false := by decide)
    (he : starEach (e :: es) X.env = (false, eval e X.env) :: starEach es X.env := by rfl) (hpl : (backTo pos (starEach es X.env)).any (·.1) = false := by rfl) : SE X W (.Call (.Name x p) (e :: es) [] pos) (fCall sem g) :=
  pe_weak (pe_callB hc hg hm hv ha hn hdb he hpl) fun _ _ _ h => tCB_of hs h
theorem se_callTy {T : String} {r : List V → Hp → VK → Prop} {sem : List D → Sto → Res D} (hc : CallR X (.type T) r) (hs : FitsL X W r sem) (hg : Gl X x) (hm : X.mg x = none) (hv : bootBuiltins x = some (.type T)) (ha : SA X W (e :: es) g) (hn : x ≠ "__name__" := by decide) (hdb : (x == ("__debug__" : Str)) = false := by decide)
    (he : starEach (e :: es) X.env = (false, eval e X.env) :: starEach es X.env := by rfl) (hpl : (backTo pos (starEach es X.env)).any (·.1) = false := by rfl) : SE X W (.Call (.Name x p) (e :: es) [] pos) (fCall sem g) :=
  pe_weak (pe_callTy hc hg hm hv ha hn hdb he hpl) fun _ _ _ h => tCB_of hs h
theorem reps1 {m : Hw} {d : D} {vs : List V} (h : Reps X.K X.mg m.r m.g [d] vs) : ∃ v, vs = [v] ∧ Rep X.K X.mg m.r m.g d v := by
  cases h with
  | cons h1 h2 => cases h2; exact ⟨_, rfl, h1⟩
theorem reps2 {m : Hw} {d d' : D} {vs : List V} (h : Reps X.K X.mg m.r m.g [d, d'] vs) : ∃ v w, vs = [v, w] ∧ Rep X.K X.mg m.r m.g d v ∧ Rep X.K X.mg m.r m.g d' w := by
  cases h with
  | cons h1 h2 => cases h2 with
    | cons h3 h4 => cases h4; exact ⟨_, _, rfl, h1, h3⟩
def lenOf : D → Sto → Option Nat
  | .str x, _ => if x.length ≤ 16777216 then some x.length else none
  | .loc n, st => match st[n]? with
    | some (.lst l) => some l.length
    | some (.dict l) => some l.length
    | _ => none
  | x, st => (itemsOf x st).map List.length
def bLen : List D → Sto → Res D
  | [x], st => match lenOf x st with
    | some n => .ok (.int n) st
    | none => .bad
  | _, _ => .bad
theorem call_lenA : CallR X (.builtin "len") (fun xs H Q => (∃ x n, xs = [x] ∧ LenV X.K x H n ∧ Q (.int n) H) ∨ ∃ a kvs, xs = [V.ref a] ∧ H a = some (.dK kvs) ∧ Q (.int kvs.length) H) := call_len.or call_lenD
theorem fits_len : FitsL X W (fun xs H Q => (∃ x n, xs = [x] ∧ LenV X.K x H n ∧ Q (.int n) H) ∨ ∃ a kvs, xs = [V.ref a] ∧ H a = some (.dK kvs) ∧ Q (.int kvs.length) H) bLen := by
  intro m st σ l vs Q rm ra hp
  have seq : ∀ {x : D} {v : V} {l' : List D}, Rep X.K X.mg m.r m.g x v → itemsOf x st = some l' → LenV X.K v m.h l'.length := fun h e => by
    obtain ⟨p, vs, rfl, hs, hr⟩ := items_of rm h e
    rw [hr.length]
    rcases hs with hs | hs
    · exact .inl ⟨_, hs, rfl⟩
    · exact .inr ⟨_, hs, rfl⟩
  unfold bLen at hp
  split at hp
  · rename_i x st'
    obtain ⟨v, rfl, hv⟩ := reps1 ra
    split at hp
    · rename_i n hn
      have fin := hp.okc rm (.int _)
      unfold lenOf at hn
      split at hn
      · cases hv
        split at hn
        · rename_i hl
          cases hn
          exact .inl ⟨_, _, rfl, ⟨le_line.mp hl, rfl⟩, fin⟩
        · cases hn
      · split at hn
        · rename_i l h2
          cases hn
          exact .inl ⟨_, _, rfl, seq hv (by simp [itemsOf, h2]), fin⟩
        · rename_i l h2
          cases hn
          cases hv with
          | loc h1 =>
            obtain ⟨kvs, h3, h4, _⟩ := rm.obj _ _ _ h1 h2
            have : kvs.length = l.length := by have := congrArg List.length h4; simpa using this
            exact .inr ⟨_, kvs, rfl, h3, by rw [this]; exact fin⟩
        · cases hn
      · obtain ⟨l', h1, h2⟩ := Option.map_eq_some_iff.mp hn
        subst h2
        exact .inl ⟨_, _, rfl, seq hv h1, fin⟩
    · exact False.elim hp
  · exact False.elim hp
def bAbs : List D → Sto → Res D
  | [.int i], st => .ok (.int (if i < 0 then -i else i)) st
  | _, _ => .bad
theorem fits_abs : FitsL X W (fun xs H Q => ∃ i, xs = [.int i] ∧ Q (.int (if i < 0 then -i else i)) H) bAbs := by
  intro m st σ l vs Q rm ra hp
  unfold bAbs at hp
  split at hp
  · obtain ⟨v, rfl, hv⟩ := reps1 ra
    cases hv
    exact ⟨_, rfl, hp.okc rm (.int _)⟩
  · exact False.elim hp
def bMax : List D → Sto → Res D
  | [.int i, .int j], st => .ok (.int (if j > i then j else i)) st
  | _, _ => .bad
def bMin : List D → Sto → Res D
  | [.int i, .int j], st => .ok (.int (if j < i then j else i)) st
  | _, _ => .bad
theorem fits_max : FitsL X W (fun xs H Q => ∃ i j, xs = [.int i, .int j] ∧ Q (.int (if j > i then j else i)) H) bMax := by
  intro m st σ l vs Q rm ra hp
  unfold bMax at hp
  split at hp
  · obtain ⟨v, w, rfl, hv, hw⟩ := reps2 ra
    cases hv; cases hw
    exact ⟨_, _, rfl, hp.okc rm (.int _)⟩
  · exact False.elim hp
theorem fits_min : FitsL X W (fun xs H Q => ∃ i j, xs = [.int i, .int j] ∧ Q (.int (if j < i then j else i)) H) bMin := by
  intro m st σ l vs Q rm ra hp
  unfold bMin at hp
  split at hp
  · obtain ⟨v, w, rfl, hv, hw⟩ := reps2 ra
    cases hv; cases hw
    exact ⟨_, _, rfl, hp.okc rm (.int _)⟩
  · exact False.elim hp
def bInt : List D → Sto → Res D
  | [.int i], st => .ok (.int i) st
  | [.bl b], st => .ok (.int (if b then 1 else 0)) st
  | _, _ => .bad
theorem fits_int : FitsL X W (fun xs H Q => (∃ i, xs = [.int i] ∧ Q (.int i) H) ∨ ∃ k, xs = [.bl k] ∧ Q (.int (if k then 1 else 0)) H) bInt := by
  intro m st σ l vs Q rm ra hp
  unfold bInt at hp
  split at hp
  · obtain ⟨v, rfl, hv⟩ := reps1 ra
    cases hv
    exact .inl ⟨_, rfl, hp.okc rm (.int _)⟩
  · obtain ⟨v, rfl, hv⟩ := reps1 ra
    cases hv
    exact .inr ⟨_, rfl, hp.okc rm (.int _)⟩
  · exact False.elim hp
/-! isinstance(x, T), T a built-in class: what the type of a value is -/
def tyD : D → Sto → Option String
  | .non, _ => some "NoneType"
  | .bl _, _ => some "bool"
  | .int _, _ => some "int"
  | .str _, _ => some "str"
  | .tup _, _ => some "tuple"
  | .lst _, _ => some "list"
  | .edict, _ => some "dict"
  | .loc n, st => match st[n]? with
    | some (.lst _) => some "list"
    | some (.dict _) => some "dict"
    | _ => none
  | _, _ => none
theorem ty_of {m : Hw} {st : Sto} {d : D} {v : V} {t : String} (rm : Rel X.K X.mg m st) (h : Rep X.K X.mg m.r m.g d v) (e : tyD d st = some t) : TyX X.K m.h v (.type t) := by
  unfold tyD at e
  split at e
  · cases h; cases e; exact .base .non
  · cases h; cases e; exact .base (.bl _)
  · cases h; cases e; exact .base (.int _)
  · cases h; cases e; exact .base (.str _)
  · cases e
    cases h with
    | tup h1 h2 =>
      rcases sqT_mono rm.sub h1 with (h | ⟨o, h⟩) | ⟨o, its, n, k1, k2, _⟩
      · exact .base (.tup h)
      · exact .fTuple h
      · exact .kTuple k1 k2
  · cases e
    cases h with
    | lst h1 h2 => exact .base (.lst (rm.sub _ _ h1))
  · cases e
    cases h with
    | edict h1 => exact .base (.dK (rm.sub _ _ h1))
  · cases h with
    | loc h1 =>
      split at e
      · rename_i l h2
        cases e
        obtain ⟨vs, h3, _⟩ := rm.obj _ _ _ h1 h2
        exact .base (.lst h3)
      · rename_i l h2
        cases e
        obtain ⟨vs, h3, _⟩ := rm.obj _ _ _ h1 h2
        exact .base (.dK h3)
      · cases e
  · cases e
/-- the class of an instance -/
def clsD : D → Sto → Option Nat
  | .ins c _, _ => some c
  | .loc n, st => match st[n]? with
    | some (.ins c _) => some c
    | _ => none
  | _, _ => none
/-- what the text says of a class, for isinstance of its instances -/
structure InsC (K : PySem.W.Frag) (C : Addr) : Prop where
  cl : Cls K C
  ha : PySem.W.findIn K (.ref C) "__class__" = some (some (.builtin "object.__class__"))
  hn : PySem.W.specialIn K (.builtin "object.__class__") "__get__" = some (some (.builtin "getset_descriptor.__get__"))
  ht : PySem.W.takesIn K (.builtin "object.__class__") = some true
  hm : PySem.W.mroIn K C (.type "object") = some true
theorem cls_of {m : Hw} {st : Sto} {d : D} {v : V} {c : Nat} {C : Addr} (rm : Rel X.K X.mg m st) (h : Rep X.K X.mg m.r m.g d v) (e : clsD d st = some c) (hc : X.mg (cName c) = some (.ref C)) (I : InsC X.K C) : TyX X.K m.h v (.ref C) := by
  unfold clsD at e
  split at e
  · cases e
    cases h with
    | ins h1 h2 h3 h4 =>
      rw [hc] at h1
      cases h1
      exact .base (.ins (rm.sub _ _ h2) I.cl I.ha I.hn I.ht I.hm)
  · cases h with
    | loc h1 =>
      split at e
      · rename_i c' l h2
        cases e
        obtain ⟨C', dx, fs, h3, h4, _⟩ := rm.obj _ _ _ h1 h2
        rw [hc] at h3
        cases h3
        exact .base (.ins h4 I.cl I.ha I.hn I.ht I.hm)
      · cases e
  · cases e
/-- isinstance(x, T): T a built-in class by its name; tb: whether a built-in type's values are, cl: the classes that are asked and whether their instances are -/
def bIsi (tb : String → Option Bool) (cl : List (Nat × Bool)) : D → Sto → Res D := fun x st => match tyD x st with
  | some t => match tb t with
    | some b => .ok (.bl b) st
    | none => .bad
  | none => match clsD x st with
    | some c => match cl.lookup c with
      | some b => .ok (.bl b) st
      | none => .bad
    | none => .bad
/-- the classes' facts -/
def IsiC (X : Cx) (u : Value) : List (Nat × Bool) → Prop
  | [] => True
  | (c, b) :: l => (∃ C, X.mg (cName c) = some (.ref C) ∧ InsC X.K C ∧ PySem.W.kitOne X.K (.ref C) u = some b) ∧ IsiC X u l
theorem IsiC.get {u : Value} : ∀ {l : List (Nat × Bool)} {c : Nat} {b : Bool}, IsiC X u l → l.lookup c = some b → ∃ C, X.mg (cName c) = some (.ref C) ∧ InsC X.K C ∧ PySem.W.kitOne X.K (.ref C) u = some b
  | [], _, _, _, e => by simp at e
  | (c', b') :: l, c, b, h, e => by
    rw [List.lookup_cons] at e
    by_cases z : c = c'
    · subst z
      simp at e
      subst e
      exact h.1
    · have : (c == c') = false := by simpa using z
      rw [this] at e
      exact IsiC.get h.2 e
@[simp] def fIsi (tb : String → Option Bool) (cl : List (Nat × Bool)) (fo : EF) : EF := fun sg st => (fo sg st).bind fun x st1 => bIsi tb cl x st1
theorem se_isi {tb : String → Option Bool} {cl : List (Nat × Bool)} {c : V} {u : Value} {e2 : Expr} (hg : Gl X "isinstance") (hm : X.mg "isinstance" = none) (ho : SE X W o fo) (h2 : PE X e2 (tC c)) (hu : ClsV c u) (htb : ∀ t b, tb t = some b → PySem.W.kitOne X.K (.type t) u = some b) (hcl : IsiC X u cl)
    (he : starEach (o :: [e2]) X.env = (false, eval o X.env) :: starEach [e2] X.env := by rfl) (hpl : (backTo pos (starEach [e2] X.env)).any (·.1) = false := by rfl) (hs : starEach (e2 :: []) X.env = (false, eval e2 X.env) :: starEach [] X.env := by rfl) :
    SE X W (.Call (.Name "isinstance" p) [o, e2] [] pos) (fIsi tb cl fo) :=
  pe_weak (pe_callB call_isi hg hm (by decide +kernel) (pa_cons ho (pa_cons h2 pa_nil hs) he) (by decide) (by decide) he hpl) fun σ H Q ⟨m, sg, st, e, rm, rs, hp⟩ => ⟨m, sg, st, e, rm, rs, hp.bindc fun m1 x v st1 e1 r1 q1 hp1 => by
    unfold bIsi at hp1
    split at hp1
    · rename_i t ht
      split at hp1
      · rename_i b hb
        exact ⟨_, _, _, _, _, rfl, hu, ty_of r1 q1 ht, htb _ _ hb, hp1.okc r1 (.bl _)⟩
      · exact False.elim hp1
    · split at hp1
      · rename_i c' hc'
        split at hp1
        · rename_i b hb
          obtain ⟨C, k1, k2, k3⟩ := hcl.get hb
          exact ⟨_, _, _, _, _, rfl, hu, cls_of r1 q1 hc' k1 k2, k3, hp1.okc r1 (.bl _)⟩
        · exact False.elim hp1
      · exact False.elim hp1⟩

/-! own defs: the promise -/
theorem Post.conv {α β : Type} {K : PySem.W.Frag} {mg : Str → Option Value} {m : Hw} {σ : St} {R : Hw → α → β → Prop} {Q : β → Hp → Prop} {r : Res α} (h : Post K mg W.w m σ R Q r) : Post K mg (fun c d _ H => W.w c d σ H) m [] R Q r := by
  cases r <;> exact h
def spF (K : PySem.W.Frag) (mg : Str → Option Value) (n : Nat) (F : FF) : Sp := fun vs H Q E => ∃ m ds st, m.h = H ∧ Rel K mg m st ∧ Reps K mg m.r m.g ds vs ∧ ds.length = n ∧ Post K mg (fun c d _ H => E c d H) m [] (RD K mg) Q (F ds st)
/-- default values: the values, what they mean -/
structure Dfl (K : PySem.W.Frag) (mg : Str → Option Value) (ds : List Value) (dvs : List V) (dds : List D) : Prop where
  v : Vals dvs ds
  r : ∀ r G, Reps K mg r G dds dvs
theorem Dfl.nil {K : PySem.W.Frag} {mg : Str → Option Value} : Dfl K mg [] [] [] := ⟨.nil, fun _ _ => .nil⟩
variable {k n : Nat} {fa C : Addr} {fd : FuncData} {ps : List Str} {F : FF} {dvs : List V} {ds : List Value} {dds : List D}
/-- a def called: as many arguments as parameters, with its defaults -/
def cF (F : FF) (n : Nat) (dds : List D) : FF := fun l st => if (l ++ dds).length = n then F (l ++ dds) st else .bad
theorem se_call (hF : FnOk X.prog X.w X.K X.mg X.base (L2.CX X.prog X.w) k fa fd ps (spF X.K X.mg n F)) (hr : Room k X.A) (tk : Takes X W.w) (hg : Gl X x) (hm : X.mg x = some (.ref fa)) (hk : PySem.W.keepIn X.K (.ref fa) = true) (hb : Binds X.K fd ps ds) (hd : Dfl X.K X.mg ds dvs dds)
    (ha : SA X W (e :: es) g) (hdb : (x == ("__debug__" : Str)) = false := by decide) (he : starEach (e :: es) X.env = (false, eval e X.env) :: starEach es X.env := by rfl) (hpl : (backTo pos (starEach es X.env)).any (·.1) = false := by rfl) :
    SE X W (.Call (.Name x p) (e :: es) [] pos) (fCall (cF F n dds) g) :=
  pe_weak (pe_callSD (E := WE W.w) hF hr hg hm hk hb hd.v (fun σ => passAt tk σ) ha hdb he hpl) fun σ H Q ⟨m, sg, st, e, rm, rs, hp⟩ => ⟨m, sg, st, e, rm, rs, hp.bindc fun m1 l vs st1 e1 r1 q1 hp1 => by
    unfold cF at hp1
    split at hp1
    · rename_i hl
      exact ⟨m1, l ++ dds, st1, rfl, r1, q1.append (hd.r _ _), hl, hp1.conv⟩
    · exact False.elim hp1⟩
theorem se_call0 (hF : FnOk X.prog X.w X.K X.mg X.base (L2.CX X.prog X.w) k fa fd ps (spF X.K X.mg n F)) (hr : Room k X.A) (tk : Takes X W.w) (hg : Gl X x) (hm : X.mg x = some (.ref fa)) (hk : PySem.W.keepIn X.K (.ref fa) = true) (hb : Binds X.K fd ps ds) (hd : Dfl X.K X.mg ds dvs dds)
    (hdb : (x == ("__debug__" : Str)) = false := by decide) : SE X W (.Call (.Name x p) [] [] pos) (fun _ st => cF F n dds [] st) := by
  refine ⟨fun pins s σ H Q I h => ?_⟩
  obtain ⟨m, sg, st, rfl, rm, rs, hp⟩ := h
  refine wpAny_Call_Name_kw (ld_glob I hg hm ?_ hdb)
  refine PySem.W.callWith_K0 I.kIn hk (run_fnSD (us := []) (vs := []) (E := WE W.w) hF hr hb hd.v (passAt tk σ) I .nil ?_)
  unfold cF at hp
  split at hp
  · rename_i hl
    exact ⟨m, dds, st, rfl, rm, hd.r _ _, hl, hp.conv⟩
  · exact False.elim hp
/-! objects -/
def insOf (c : Nat) : D → Sto → Option (List D)
  | .ins c' l, _ => if c' = c then some l else none
  | .loc n, st => match st[n]? with
    | some (.ins c' l) => if c' = c then some l else none
    | _ => none
  | _, _ => none
theorem ins_of {m : Hw} {st : Sto} {d : D} {v : V} {c : Nat} {l : List D} {C : Addr} (rm : Rel X.K X.mg m st) (h : Rep X.K X.mg m.r m.g d v) (e : insOf c d st = some l) (hc : X.mg (cName c) = some (.ref C)) :
    ∃ a dx fs, v = .ref a ∧ m.h a = some (.ins C dx fs) ∧ fs.map (·.1) = (cFlds c).take l.length ∧ Reps X.K X.mg m.r m.g l (fs.map (·.2)) := by
  unfold insOf at e
  split at e
  · split at e
    · rename_i hc'
      subst hc'
      cases e
      cases h with
      | ins h1 h2 h3 h4 =>
        rw [hc] at h1
        cases h1
        exact ⟨_, _, _, rfl, rm.sub _ _ h2, h3, h4⟩
    · cases e
  · cases h with
    | loc h1 =>
      split at e
      · rename_i c' l' h2
        split at e
        · rename_i hc'
          subst hc'
          cases e
          obtain ⟨C', dx, fs, h3, h4, h5, h6⟩ := rm.obj _ _ _ h1 h2
          rw [hc] at h3
          cases h3
          exact ⟨_, _, _, rfl, h4, h5, h6⟩
        · cases e
      · cases e
  · cases e
theorem lookup_at : ∀ {fs : List (Str × V)} {ns : List Str} {i : Nat} {f : Str} {v : V}, fs.map (·.1) = ns → ns.Nodup → ns[i]? = some f → (fs.map (·.2))[i]? = some v → fs.lookup f = some v
  | [], ns, i, f, v, h, _, e, _ => by simp at h; subst h; simp at e
  | (f', v') :: fs, ns, i, f, v, h, nd, e1, e2 => by
    simp at h
    subst h
    cases i with
    | zero =>
      simp at e1 e2
      subst e1; subst e2
      simp [List.lookup_cons]
    | succ i =>
      simp at e1 e2
      have hne : (f == f') = false := by
        have : f ≠ f' := fun z => by
          subst z
          exact (List.nodup_cons.mp nd).1 (List.mem_of_getElem? (i := i) (by simpa using e1))
        simpa using this
      rw [List.lookup_cons, hne]
      refine lookup_at rfl (List.nodup_cons.mp nd).2 (i := i) ?_ ?_
      · simpa using e1
      · simpa using e2
theorem lookup_none {fs : List (Str × V)} {ns : List Str} {f : Str} (h : fs.map (·.1) = ns) (hn : f ∉ ns) : fs.lookup f = none := by
  rw [List.lookup_eq_none_iff]
  intro p hp
  have : p.1 ∈ ns := by rw [← h]; exact List.mem_map_of_mem hp
  have : f ≠ p.1 := fun z => hn (z ▸ this)
  simpa using this
@[simp] def fFld (c i : Nat) (fo : EF) : EF := fun sg st => (fo sg st).bind fun x st1 => match insOf c x st1 with
  | some l => match l[i]? with
    | some d => .ok d st1
    | none => .bad
  | none => .bad
theorem take_at {l : List Str} {n i : Nat} {f : Str} (h : l[i]? = some f) (hi : i < n) : (l.take n)[i]? = some f := by
  rw [List.getElem?_take_of_lt hi]; exact h
theorem se_fld {c i : Nat} (hc : X.mg (cName c) = some (.ref C)) (cl : Cls X.K C) (na : NoAttr X.K C m) (hf : (cFlds c)[i]? = some m) (hnd : (cFlds c).Nodup) (ho : SE X W o fo) (hb : attributeBase o m X.env (eval o X.env) = eval o X.env := by rfl) : SE X W (.Attribute o m pos) (fFld c i fo) :=
  pe_weak (pe_fld ho hb) fun σ H Q ⟨w, sg, st, e, rm, rs, hp⟩ => ⟨w, sg, st, e, rm, rs, hp.bindc fun m1 x v st1 e1 r1 q1 hp1 => by
    split at hp1
    · rename_i l hl
      split at hp1
      · rename_i d hd
        obtain ⟨a, dx, fs, rfl, h1, h2, h3⟩ := ins_of r1 q1 hl hc
        obtain ⟨v, h4, h5⟩ := h3.get hd
        have hi : i < l.length := (List.getElem?_eq_some_iff.mp hd).1
        exact ⟨a, C, dx, fs, v, rfl, h1, cl, na, lookup_at h2 (hnd.sublist (List.take_sublist _ _)) (take_at hf hi) h4, hp1.okc r1 h5⟩
      · exact False.elim hp1
    · exact False.elim hp1⟩
/-! methods -/
@[simp] def fMeth (c : Nat) (F : FF) (n : Nat) (dds : List D) (fo : EF) (g : AF) : EF := fun sg st => (fo sg st).bind fun x st1 => match insOf c x st1 with
  | some _ => (g sg st1).bind fun l st2 => cF F n dds (x :: l) st2
  | none => .bad
/-- a bound method runs -/
theorem run_meth {σ : St} {Q : VK} {pins : List (Addr × Obj)} {a : Addr} {us : List Value} {s2 : Shared} {m1 m2 : Hw} {l : List D} {vs : List V} {st2 : Sto} {d : D}
    (hF : FnOk X.prog X.w X.K X.mg X.base (L2.CX X.prog X.w) k fa fd ps (spF X.K X.mg n F)) (hr : Room k X.A) (tk : Takes X W.w) (hb : Binds X.K fd ps ds) (hd : Dfl X.K X.mg ds dvs dds) (q1 : Rep X.K X.mg m1.r m1.g d (.ref a))
    (I2 : Inv X pins σ m2.h s2) (rv2 : Vals vs us) (e2 : Ext m1 m2) (r2 : Rel X.K X.mg m2 st2) (q2 : Reps X.K X.mg m2.r m2.g l vs) (hp2 : Post X.K X.mg W.w m2 σ (RD X.K X.mg) Q (cF F n dds (d :: l) st2)) :
    wpAny (model X.prog X.w) X.A (call (.ref fa) (Value.ref a :: us)) (EP X pins σ Q) X.xe s2 := by
  unfold cF at hp2
  split at hp2
  · rename_i hl
    exact run_fnSD (us := Value.ref a :: us) (vs := V.ref a :: vs) (E := WE W.w) hF hr hb hd.v (passAt tk σ) I2 (.cons rfl rv2) ⟨m2, d :: (l ++ dds), st2, rfl, r2, .cons (q1.mono e2) (q2.append (hd.r _ _)), by simpa using hl, hp2.conv⟩
  · exact False.elim hp2
def MPost (X : Cx) (W : We) (σ : St) (sg : Sg) (Q : VK) (k : D → Sto → Res D) : VK := fun v H1 => ∃ m1 x st1, m1.h = H1 ∧ Rel X.K X.mg m1 st1 ∧ SgRep X.K X.mg W.e m1 sg σ ∧ Rep X.K X.mg m1.r m1.g x v ∧ Post X.K X.mg W.w m1 σ (RD X.K X.mg) Q (k x st1)
theorem se_meth {c : Nat} {pl : Sem Bool} (hF : FnOk X.prog X.w X.K X.mg X.base (L2.CX X.prog X.w) k fa fd ps (spF X.K X.mg n F)) (hr : Room k X.A) (tk : Takes X W.w) (hc : X.mg (cName c) = some (.ref C)) (cl : Cls X.K C) (hme : Meth X.K C m fa) (hnf : m ∉ cFlds c) (hb : Binds X.K fd ps ds) (hd : Dfl X.K X.mg ds dvs dds)
    (ho : SE X W o fo) (ha : SA X W (e :: es) g) (hst : starEach (e :: es) X.env = (false, eval e X.env) :: starEach es X.env := by rfl) (hpl : (backTo pos (starEach es X.env)).any (·.1) = false := by rfl)
    (ht : eval (.Call (.Attribute o m apos) (e :: es) [] pos) X.env = (do
      let ov ← eval o X.env
      standAt apos.atName
      let (f, first) ← holding [ov] (getMethod ov m pl)
      callWith pos f first (backTo pos (starEach (e :: es) X.env)) (backToKw pos (keywordEach [] X.env))) := by rfl) :
    SE X W (.Call (.Attribute o m apos) (e :: es) [] pos) (fMeth c F n dds fo g) := by
  refine ⟨fun pins s σ H Q I h => ?_⟩
  obtain ⟨w, sg, st, rfl, rm, rs, hp⟩ := h
  refine PySem.W.methodCall_KW (pl := pl) (thn (ho.run pins s σ w.h (MPost X W σ sg Q fun x st1 => match insOf c x st1 with
    | some _ => (g sg st1).bind fun l st2 => cF F n dds (x :: l) st2
    | none => .bad) I ⟨w, sg, st, rfl, rm, rs, hp.bindc fun m1 x v st1 e1 r1 q1 hp1 => ⟨m1, x, st1, rfl, r1, rs.mono e1, q1, hp1⟩⟩) fun u s1 hh => ?_) ht
  obtain ⟨v, H1, I1, rv, m1, x, st1, rfl, r1, rs1, q1, hp1⟩ := hh
  dsimp only at hp1
  split at hp1
  · rename_i l0 hl0
    obtain ⟨a, dx, fs, rfl, h1, h2, h3⟩ := ins_of r1 q1 hl0 hc
    obtain rfl : u = Value.ref a := rv
    refine getmeth_ok I1 h1 cl hme (lookup_none h2 fun z => hnf (List.mem_of_mem_take z)) ?_
    refine PySem.W.callWith_K (first := [.ref a]) (h₀ := X.base) I1.ok.mod.kin hme.kp (thn (ha.run pos pins s1 σ m1.h (fun vs H2 => ∃ m2 l st2, m2.h = H2 ∧ Ext m1 m2 ∧ Rel X.K X.mg m2 st2 ∧ Reps X.K X.mg m2.r m2.g l vs ∧ Post X.K X.mg W.w m2 σ (RD X.K X.mg) Q (cF F n dds (x :: l) st2)) I1
      ⟨m1, sg, st1, rfl, r1, rs1, hp1.bindc fun m2 l vs st2 e2 r2 q2 hp2 => ⟨m2, l, st2, rfl, e2, r2, q2, hp2⟩⟩) fun us s2 hz => ?_) hst hpl
    obtain ⟨vs, H2, I2, rv2, m2, l, st2, rfl, e2, r2, q2, hp2⟩ := hz
    exact ⟨I2.kIn, run_meth hF hr tk hb hd q1 I2 rv2 e2 r2 q2 hp2⟩
  · exact False.elim hp1
theorem se_meth0 {c : Nat} {pl : Sem Bool} (hF : FnOk X.prog X.w X.K X.mg X.base (L2.CX X.prog X.w) k fa fd ps (spF X.K X.mg n F)) (hr : Room k X.A) (tk : Takes X W.w) (hc : X.mg (cName c) = some (.ref C)) (cl : Cls X.K C) (hme : Meth X.K C m fa) (hnf : m ∉ cFlds c) (hb : Binds X.K fd ps ds) (hd : Dfl X.K X.mg ds dvs dds)
    (ho : SE X W o fo)
    (ht : eval (.Call (.Attribute o m apos) [] [] pos) X.env = (do
      let ov ← eval o X.env
      standAt apos.atName
      let (f, first) ← holding [ov] (getMethod ov m pl)
      callWith pos f first (backTo pos (starEach [] X.env)) (backToKw pos (keywordEach [] X.env))) := by rfl) :
    SE X W (.Call (.Attribute o m apos) [] [] pos) (fMeth c F n dds fo aNil) := by
  refine ⟨fun pins s σ H Q I h => ?_⟩
  obtain ⟨w, sg, st, rfl, rm, rs, hp⟩ := h
  refine PySem.W.methodCall_KW (pl := pl) (thn (ho.run pins s σ w.h (MPost X W σ sg Q fun x st1 => match insOf c x st1 with
    | some _ => cF F n dds [x] st1
    | none => .bad) I ⟨w, sg, st, rfl, rm, rs, hp.bindc fun m1 x v st1 e1 r1 q1 hp1 => ⟨m1, x, st1, rfl, r1, rs.mono e1, q1, hp1⟩⟩) fun u s1 hh => ?_) ht
  obtain ⟨v, H1, I1, rv, m1, x, st1, rfl, r1, rs1, q1, hp1⟩ := hh
  dsimp only at hp1
  split at hp1
  · rename_i l0 hl0
    obtain ⟨a, dx, fs, rfl, h1, h2, h3⟩ := ins_of r1 q1 hl0 hc
    obtain rfl : u = Value.ref a := rv
    refine getmeth_ok I1 h1 cl hme (lookup_none h2 fun z => hnf (List.mem_of_mem_take z)) ?_
    exact PySem.W.callWith_K0 (first := [.ref a]) I1.kIn hme.kp (run_meth (us := []) hF hr tk hb hd q1 I1 .nil (Ext.refl m1) r1 .nil hp1)
  · exact False.elim hp1
end
end Sh
/-! Part E: statements, loops, comprehensions, defs. -/
namespace Sh
open PySem L2
def Res.flw {α : Type} (r : Res α) (sg : Sg) (k : α → Sto → Flw) : Flw := match r with
  | .ok a st => k a st
  | .exc c o st => .exc c o sg st
  | .bad => .bad
@[simp] theorem Res.flw_ok {α : Type} (a : α) (st : Sto) (sg : Sg) (k : α → Sto → Flw) : (Res.ok a st).flw sg k = k a st := rfl
@[simp] theorem Res.flw_exc {α : Type} (c : Nat) (o : Option D) (st : Sto) (sg : Sg) (k : α → Sto → Flw) : (Res.exc c o st : Res α).flw sg k = .exc c o sg st := rfl
@[simp] theorem Res.flw_bad {α : Type} (sg : Sg) (k : α → Sto → Flw) : (Res.bad : Res α).flw sg k = .bad := rfl
theorem Res.flw_cg {α : Type} {x y : Res α} {sg : Sg} {k : α → Sto → Flw} (h : x = y) : x.flw sg k = y.flw sg k := by rw [h]
def Flw.seq (x : Flw) (k : Sg → Sto → Flw) : Flw := match x with
  | .nx sg st => k sg st
  | r => r
@[simp] theorem Flw.seq_nx (sg : Sg) (st : Sto) (k : Sg → Sto → Flw) : (Flw.nx sg st).seq k = k sg st := rfl
@[simp] theorem Flw.seq_ret (d : D) (st : Sto) (k : Sg → Sto → Flw) : (Flw.ret d st).seq k = .ret d st := rfl
@[simp] theorem Flw.seq_brk (sg : Sg) (st : Sto) (k : Sg → Sto → Flw) : (Flw.brk sg st).seq k = .brk sg st := rfl
@[simp] theorem Flw.seq_cnt (sg : Sg) (st : Sto) (k : Sg → Sto → Flw) : (Flw.cnt sg st).seq k = .cnt sg st := rfl
@[simp] theorem Flw.seq_exc (c : Nat) (o : Option D) (sg : Sg) (st : Sto) (k : Sg → Sto → Flw) : (Flw.exc c o sg st).seq k = .exc c o sg st := rfl
@[simp] theorem Flw.seq_bad (k : Sg → Sto → Flw) : Flw.bad.seq k = .bad := rfl
theorem Flw.seq_cg {x y : Flw} {k : Sg → Sto → Flw} (h : x = y) : x.seq k = y.seq k := by rw [h]
def Flw.loop (x : Flw) (k : Sg → Sto → Flw) : Flw := match x with
  | .nx sg st => k sg st
  | .cnt sg st => k sg st
  | .brk sg st => .nx sg st
  | r => r
@[simp] theorem Flw.loop_nx (sg : Sg) (st : Sto) (k : Sg → Sto → Flw) : (Flw.nx sg st).loop k = k sg st := rfl
@[simp] theorem Flw.loop_ret (d : D) (st : Sto) (k : Sg → Sto → Flw) : (Flw.ret d st).loop k = .ret d st := rfl
@[simp] theorem Flw.loop_brk (sg : Sg) (st : Sto) (k : Sg → Sto → Flw) : (Flw.brk sg st).loop k = .nx sg st := rfl
@[simp] theorem Flw.loop_cnt (sg : Sg) (st : Sto) (k : Sg → Sto → Flw) : (Flw.cnt sg st).loop k = k sg st := rfl
@[simp] theorem Flw.loop_exc (c : Nat) (o : Option D) (sg : Sg) (st : Sto) (k : Sg → Sto → Flw) : (Flw.exc c o sg st).loop k = .exc c o sg st := rfl
@[simp] theorem Flw.loop_bad (k : Sg → Sto → Flw) : Flw.bad.loop k = .bad := rfl
theorem Flw.loop_cg {x y : Flw} {k : Sg → Sto → Flw} (h : x = y) : x.loop k = y.loop k := by rw [h]
@[simp] def sNil : SF := fun sg st => .nx sg st
@[simp] def sSeq (g h : SF) : SF := fun sg st => (g sg st).seq h
@[simp] def sDrop (f : EF) : SF := fun sg st => (f sg st).flw sg fun _ st1 => .nx sg st1
@[simp] def sSet (i : Nat) (f : EF) : SF := fun sg st => (f sg st).flw sg fun d st1 => .nx (sg.set i (some d)) st1
@[simp] def sRet (f : EF) : SF := fun sg st => (f sg st).flw sg fun d st1 => .ret d st1
@[simp] def sRetN : SF := fun _ st => .ret .non st
@[simp] def sIf (t : TF) (g h : SF) : SF := fun sg st => (t sg st).flw sg fun b st1 => if b = true then g sg st1 else h sg st1
@[simp] def sBrk : SF := fun sg st => .brk sg st
@[simp] def sCnt : SF := fun sg st => .cnt sg st
def whF (t : TF) (g : SF) : Nat → SF
  | 0, _, _ => .bad
  | n + 1, sg, st => (t sg st).flw sg fun b st1 => if b = true then (g sg st1).loop (whF t g n) else .nx sg st1
/-- more than any loop's turns; only its size is used -/
@[irreducible] def fuel : Nat := Nat.pow 2 4000
def sWhile (n : Nat) (t : TF) (g : SF) : SF := whF t g n

section
variable {X : Cx} {W : We} {e o a b c : Expr} {es : List Expr} {f fo fa fb : EF} {g : AF} {pos p apos pos' : Pos} {x : Str} {t : TF} {gs hs : SF} {st : Stmt} {rest body : List Stmt}
theorem flwc {α β : Type} {K : PySem.W.Frag} {mg : Str → Option Value} {m : Hw} {σ : St} {sg : Sg} {D : Ends} {r : Res α} {k : α → Sto → Flw} {R : Hw → α → β → Prop} {Q : β → Hp → Prop}
    (hp : PostS K mg W m D (r.flw sg k)) (rs : SgRep K mg W.e m sg σ) (h : ∀ m1 y v st1, Ext m m1 → Rel K mg m1 st1 → R m1 y v → PostS K mg W m1 D (k y st1) → Q v m1.h) : Post K mg W.w m σ R Q r := by
  cases r with
  | ok y st => exact fun m' v e r q => h m' y v st e r q (PostS.mono hp e)
  | exc c o st => exact fun m' cls dx e r q => hp m' σ cls dx e r (rs.mono e) q
  | bad => exact hp
theorem ss_nil : SSs X W [] sNil := pss_weak pss_nil fun D σ H ⟨m, sg, st, e, rm, rs, hp⟩ => by
  subst e; exact hp m σ (Ext.refl m) rm rs
theorem ss_cons (h1 : SS X W st gs) (h2 : SSs X W rest hs) : SSs X W (st :: rest) (sSeq gs hs) :=
  pss_weak (pss_cons h1 h2) fun D σ H ⟨m, sg, st, e, rm, rs, hp⟩ => ⟨m, sg, st, e, rm, rs, by
    unfold sSeq at hp
    cases q : gs sg st with
    | nx sg1 st1 =>
      rw [q] at hp
      exact fun m' σ' e' r' s' => ⟨m', sg1, st1, rfl, r', s', PostS.mono hp e'⟩
    | ret d st1 => rw [q] at hp; exact hp
    | brk sg1 st1 => rw [q] at hp; exact hp
    | cnt sg1 st1 => rw [q] at hp; exact hp
    | exc c o sg1 st1 => rw [q] at hp; exact hp
    | bad => rw [q] at hp; exact hp⟩
theorem ss_one (h1 : SS X W st gs) : SSs X W [st] gs := pss_one h1
theorem ss_drop (he : SE X W e f) (hs : swapsWith e none pos.line X.env = pure false := by rfl) : SS X W (.Expr e pos) (sDrop f) :=
  ps_weak (ps_expr he hs) fun D σ H ⟨m, sg, st, e, rm, rs, hp⟩ => ⟨m, sg, st, e, rm, rs, flwc hp rs fun m1 y v st1 e1 r1 q1 hp1 => hp1 m1 σ (Ext.refl _) r1 (rs.mono e1)⟩
theorem ss_set {i : Nat} (hN : X.N.Nodup) (hi : X.N[i]? = some x) (hx : Loc X.env.scope x) (he : SE X W e f) (hs : swapsWith e (some (.Name x pos')) pos.line X.env = pure false := by rfl) (hf : X.fn x = true ∨ X.env.scope.names.lookup x = some .local := by first | exact .inl rfl | exact .inr rfl | assumption) :
    SS X W (.Assign [.Name x pos'] e pos) (sSet i f) :=
  ps_weak (ps_set hN hi hx he hs hf) fun D σ H ⟨m, sg, st, e, rm, rs, hp⟩ => ⟨m, sg, st, e, rm, rs, flwc hp rs fun m1 y v st1 e1 r1 q1 hp1 => hp1 m1 _ (Ext.refl _) r1 ((rs.mono e1).set i q1)⟩
theorem ss_ret (he : SE X W e f) : SS X W (.Return (some e) pos) (sRet f) :=
  ps_weak (ps_ret he) fun D σ H ⟨m, sg, st, e, rm, rs, hp⟩ => ⟨m, sg, st, e, rm, rs, flwc hp rs fun m1 y v st1 e1 r1 q1 hp1 => hp1 m1 v (Ext.refl _) r1 q1⟩
theorem ss_retN : SS X W (.Return none pos) sRetN := ps_weak ps_retN fun D σ H ⟨m, sg, st, e, rm, rs, hp⟩ => by
  subst e; exact hp m .non (Ext.refl m) rm .non
theorem ss_pass : SS X W (.Pass pos) sNil := ps_weak ps_pass fun D σ H ⟨m, sg, st, e, rm, rs, hp⟩ => by
  subst e; exact hp m σ (Ext.refl m) rm rs
theorem ss_brk : SS X W (.Break pos) sBrk := ps_weak ps_break fun D σ H ⟨m, sg, st, e, rm, rs, hp⟩ => by
  subst e; exact hp m σ (Ext.refl m) rm rs
theorem ss_cnt : SS X W (.Continue pos) sCnt := ps_weak ps_continue fun D σ H ⟨m, sg, st, e, rm, rs, hp⟩ => by
  subst e; exact hp m σ (Ext.refl m) rm rs
theorem ss_if {p q : List Stmt} (hc : SB X W c t) (ha : SSs X W p gs) (hb : SSs X W q hs) : SS X W (.If c p q pos) (sIf t gs hs) :=
  ps_weak (ps_if hc ha hb) fun D σ H ⟨m, sg, st, e, rm, rs, hp⟩ => ⟨m, sg, st, e, rm, rs, flwc hp rs fun m1 y v st1 e1 r1 q1 hp1 => by
    cases q1
    cases y with
    | true => exact ⟨m1, sg, st1, rfl, r1, rs.mono e1, hp1⟩
    | false => exact ⟨m1, sg, st1, rfl, r1, rs.mono e1, hp1⟩⟩
/-- an unreachable statement -/
theorem ss_never : SS X W st fun _ _ => .bad := ps_weak ps_never fun D σ H ⟨m, sg, st, e, rm, rs, hp⟩ => hp
theorem ss_nevers : SSs X W rest fun _ _ => .bad := pss_weak pss_never fun D σ H ⟨m, sg, st, e, rm, rs, hp⟩ => hp
theorem loopc {K : PySem.W.Frag} {mg : Str → Option Value} {m : Hw} {D : Ends} {y : Flw} {k : Sg → Sto → Flw} {N : St → Hp → Prop} (hp : PostS K mg W m D (y.loop k))
    (h : ∀ m1 σ1 sg1 st1, Ext m m1 → Rel K mg m1 st1 → SgRep K mg W.e m1 sg1 σ1 → PostS K mg W m1 D (k sg1 st1) → N σ1 m1.h) : PostS K mg W m { D with nx := N, ct := N, bk := D.nx } y := by
  cases y with
  | nx sg st => exact fun m' σ' e r s => h m' σ' sg st e r s (PostS.mono hp e)
  | cnt sg st => exact fun m' σ' e r s => h m' σ' sg st e r s (PostS.mono hp e)
  | brk sg st => exact hp
  | ret d st => exact hp
  | exc c o sg st => exact hp
  | bad => exact hp
theorem ss_while {n : Nat} (hpo : PassesOwn (model X.prog X.w) X.A X.env X.xe) (hc : SB X W c t) (hb : SSs X W body gs) : SS X W (.While c body [] pos) (sWhile n t gs) :=
  ps_weak (ps_while hpo hc hb) fun D σ H ⟨m, sg, st, e, rm, rs, hp⟩ => by
    refine ⟨fun k σ H => ∃ m1 sg st, m1.h = H ∧ Rel X.K X.mg m1 st ∧ SgRep X.K X.mg W.e m1 sg σ ∧ PostS X.K X.mg W m1 D (whF t gs k sg st), ⟨n, m, sg, st, e, rm, rs, hp⟩, ?_⟩
    rintro k σ1 H1 ⟨m1, sg1, st1, rfl, r1, s1, p1⟩
    cases k with
    | zero => exact False.elim p1
    | succ k =>
      refine ⟨m1, sg1, st1, rfl, r1, s1, flwc p1 s1 fun m2 y v st2 e2 r2 q2 p2 => ?_⟩
      cases q2
      cases y with
      | true =>
        rw [if_pos rfl] at p2
        exact iteT ⟨fun σ' H' => ∃ m1 sg st, m1.h = H' ∧ Rel X.K X.mg m1 st ∧ SgRep X.K X.mg W.e m1 sg σ' ∧ PostS X.K X.mg W m1 D (whF t gs k sg st), fun σ' H' z => ⟨k, Nat.lt_succ_self k, z⟩, m2, sg1, st2, rfl, r2, s1.mono e2,
          loopc p2 fun m3 σ3 sg3 st3 e3 r3 s3 p3 => ⟨m3, sg3, st3, rfl, r3, s3, p3⟩⟩
      | false =>
        rw [if_neg Bool.false_ne_true] at p2
        exact iteF (p2 m2 σ1 (Ext.refl _) r2 (s1.mono e2))

/-! targets -/
inductive Tg1 where
  | nm (i : Nat)
  | tp (l : List Nat)
inductive Tg where
  | one (i : Nat)
  | many (l : List Nat)
  | nest (l : List Tg1)
@[simp] def setL : List Nat → List D → Sg → Option Sg
  | [], [], sg => some sg
  | i :: l, d :: r, sg => setL l r (sg.set i (some d))
  | _, _, _ => none
@[simp] def setN : List Tg1 → List D → Sg → Option Sg
  | [], [], sg => some sg
  | .nm i :: l, d :: r, sg => setN l r (sg.set i (some d))
  | .tp is :: l, .tup ds :: r, sg => match setL is ds sg with
    | some sg1 => setN l r sg1
    | none => none
  | _, _, _ => none
@[simp] def setT : Tg → D → Sg → Option Sg
  | .one i, d, sg => some (sg.set i (some d))
  | .many l, .tup ds, sg => setL l ds sg
  | .nest l, .tup ds, sg => setN l ds sg
  | _, _, _ => none
def gNs : List Nat → TGs
  | [] => gNil
  | i :: l => gCons (gName i) (gNs l)
def gN1 (K : PySem.W.Frag) : Tg1 → TG
  | .nm i => gName i
  | .tp l => gTup K l.length (gNs l)
def gNn (K : PySem.W.Frag) : List Tg1 → TGs
  | [] => gNil
  | t :: l => gCons (gN1 K t) (gNn K l)
def gTg (K : PySem.W.Frag) : Tg → TG
  | .one i => gName i
  | .many l => gTup K l.length (gNs l)
  | .nest l => gTup K l.length (gNn K l)
def tgSl1 : Tg1 → List Nat
  | .nm i => [i]
  | .tp l => l
def tgSl : Tg → List Nat
  | .one i => [i]
  | .many l => l
  | .nest l => l.flatMap tgSl1
def setV : List Nat → List V → St → St
  | i :: l, v :: r, σ => setV l r (σ.set i (some v))
  | _, _, σ => σ
theorem gNs_of {H : Hp} {Q : St → Hp → Prop} : ∀ {l : List Nat} {vs : List V} {σ : St}, vs.length = l.length → Q (setV l vs σ) H → gNs l vs σ H Q
  | [], [], σ, _, h => ⟨rfl, h⟩
  | i :: l, v :: vs, σ, e, h => ⟨v, vs, rfl, gNs_of (by simpa using e) h⟩
  | [], _ :: _, _, e, _ => by simp at e
  | _ :: _, [], _, e, _ => by simp at e
theorem setL_rep {K : PySem.W.Frag} {mg : Str → Option Value} {y : Option Ex} {m : Hw} : ∀ {l : List Nat} {ds : List D} {vs : List V} {sg sg' : Sg} {σ : St}, setL l ds sg = some sg' → Reps K mg m.r m.g ds vs → SgRep K mg y m sg σ → SgRep K mg y m sg' (setV l vs σ) ∧ vs.length = l.length
  | [], [], _, sg, sg', σ, h, r, s => by
    cases r
    simp at h; subst h
    exact ⟨s, rfl⟩
  | i :: l, d :: ds, _, sg, sg', σ, h, r, s => by
    cases r with
    | cons r1 r2 =>
      obtain ⟨h1, h2⟩ := setL_rep (l := l) (by simpa using h) r2 (s.set i r1)
      exact ⟨h1, by simp [h2]⟩
  | [], _ :: _, _, _, _, _, h, _, _ => by simp at h
  | _ :: _, [], _, _, _, _, h, _, _ => by simp at h
theorem wipe_set {σ : St} {i : Nat} {v : Option V} : ∀ {vs : List Nat}, i ∈ vs → wipe (σ.set i v) vs = wipe σ vs
  | [], h => by simp at h
  | j :: vs, h => by
    unfold wipe
    by_cases e : i ∈ vs
    · rw [wipe_set e]
    · have : i = j := by
        rcases List.mem_cons.mp h with h | h
        · exact h
        · exact absurd h e
      subst this
      have : ∀ {σ : St} {vs : List Nat}, i ∉ vs → (wipe (σ.set i v) vs).set i none = (wipe σ vs).set i none := by
        intro σ vs
        induction vs with
        | nil => intro _; unfold wipe; rw [List.set_set]
        | cons k vs ih =>
          intro hk
          have h1 : i ≠ k := fun z => hk (by simp [z])
          have h2 : i ∉ vs := fun z => hk (List.mem_cons_of_mem _ z)
          unfold wipe
          rw [List.set_comm _ _ (Ne.symm h1), ih h2, List.set_comm _ _ h1]
      exact this e
theorem wipe_setV : ∀ {l : List Nat} {vs : List V} {σ : St} {ws : List Nat}, (∀ i ∈ l, i ∈ ws) → wipe (setV l vs σ) ws = wipe σ ws
  | [], _, _, _, _ => rfl
  | i :: l, [], _, _, _ => rfl
  | i :: l, v :: vs, σ, ws, h => by
    show wipe (setV l vs (σ.set i (some v))) ws = _
    rw [wipe_setV fun j hj => h j (List.mem_cons_of_mem _ hj), wipe_set (h i List.mem_cons_self)]
theorem gNn_of {K : PySem.W.Frag} {mg : Str → Option Value} {y : Option Ex} {m : Hw} {s : Sto} {ws : List Nat} {Q : St → Hp → Prop} (rm : Rel K mg m s) : ∀ {l : List Tg1} {ds : List D} {vs : List V} {sg sg' : Sg} {σ : St}, setN l ds sg = some sg' → Reps K mg m.r m.g ds vs → SgRep K mg y m sg σ →
    (∀ σ', SgRep K mg y m sg' σ' → ((∀ i ∈ l.flatMap tgSl1, i ∈ ws) → wipe σ' ws = wipe σ ws) → Q σ' m.h) → gNn K l vs σ m.h Q ∧ vs.length = l.length
  | [], [], _, sg, sg', σ, h, r, q, k => by
    cases r
    simp at h; subst h
    exact ⟨⟨rfl, k _ q fun _ => rfl⟩, rfl⟩
  | .nm i :: l, d :: ds, _, sg, sg', σ, h, r, q, k => by
    cases r with
    | cons r1 r2 =>
      obtain ⟨h1, h2⟩ := gNn_of (l := l) (Q := Q) rm (by simpa using h) r2 (q.set i r1) fun σ' s' hw => k σ' s' fun z => by
        rw [hw fun j hj => z j (by simp at hj ⊢; exact .inr hj), wipe_set (z i (by simp [tgSl1]))]
      exact ⟨⟨_, _, rfl, h1⟩, by simp [h2]⟩
  | .tp is :: l, .tup xs :: ds, _, sg, sg', σ, h, r, q, k => by
    cases r with
    | cons r1 r2 =>
      cases r1 with
      | tup a1 a2 =>
        unfold setN at h
        split at h
        · rename_i sg1 hs
          obtain ⟨b1, b2⟩ := setL_rep hs a2 q
          obtain ⟨h1, h2⟩ := gNn_of (l := l) (Q := Q) rm h r2 b1 fun σ' s' hw => k σ' s' fun z => by
            rw [hw fun j hj => z j (by simp at hj ⊢; exact .inr hj), wipe_setV fun i hi => z i (by simp [tgSl1, hi])]
          exact ⟨⟨_, _, rfl, ⟨_, _, rfl, sqT_mono rm.sub a1, b2, gNs_of b2 h1⟩⟩, by simp [h2]⟩
        · cases h
  | [], _ :: _, _, _, _, _, h, _, _, _ => by simp at h
  | .nm _ :: _, [], _, _, _, _, h, _, _, _ => by simp at h
  | .tp _ :: _, [], _, _, _, _, h, _, _, _ => by simp at h
  | .tp _ :: _, .non :: _, _, _, _, _, h, _, _, _ => by simp at h
  | .tp _ :: _, .bl _ :: _, _, _, _, _, h, _, _, _ => by simp at h
  | .tp _ :: _, .int _ :: _, _, _, _, _, h, _, _, _ => by simp at h
  | .tp _ :: _, .str _ :: _, _, _, _, _, h, _, _, _ => by simp at h
  | .tp _ :: _, .lst _ :: _, _, _, _, _, h, _, _, _ => by simp at h
  | .tp _ :: _, .ins _ _ :: _, _, _, _, _, h, _, _, _ => by simp at h
  | .tp _ :: _, .loc _ :: _, _, _, _, _, h, _, _, _ => by simp at h
  | .tp _ :: _, .scr _ :: _, _, _, _, _, h, _, _, _ => by simp at h
  | .tp _ :: _, .edict :: _, _, _, _, _, h, _, _, _ => by simp at h
theorem tg_of {K : PySem.W.Frag} {mg : Str → Option Value} {y : Option Ex} {m : Hw} {s : Sto} {sg sg' : Sg} {σ : St} {t : Tg} {d : D} {v : V} {ws : List Nat} {Q : St → Hp → Prop} (rm : Rel K mg m s) (h : setT t d sg = some sg') (r : Rep K mg m.r m.g d v) (q : SgRep K mg y m sg σ)
    (k : ∀ σ', SgRep K mg y m sg' σ' → ((∀ i ∈ tgSl t, i ∈ ws) → wipe σ' ws = wipe σ ws) → Q σ' m.h) : gTg K t v σ m.h Q := by
  cases t with
  | one i =>
    simp at h
    subst h
    exact k _ (q.set i r) fun z => wipe_set (z i (by simp [tgSl]))
  | many l =>
    cases d with
    | tup ds =>
      cases r with
      | tup r1 r2 =>
        obtain ⟨h1, h2⟩ := setL_rep (by simpa using h) r2 q
        exact ⟨_, _, rfl, sqT_mono rm.sub r1, h2, gNs_of h2 (k _ h1 fun z => wipe_setV fun i hi => z i hi)⟩
    | _ => simp at h
  | nest l =>
    cases d with
    | tup ds =>
      cases r with
      | tup r1 r2 =>
        obtain ⟨h1, h2⟩ := gNn_of (Q := Q) rm (by simpa using h) r2 q k
        exact ⟨_, _, rfl, sqT_mono rm.sub r1, h2, h1⟩
    | _ => simp at h
@[simp] def sAsg (t : Tg) (f : EF) : SF := fun sg st => (f sg st).flw sg fun d st1 => match setT t d sg with
  | some sg1 => .nx sg1 st1
  | none => .bad
theorem ss_asg {tg : Expr} {t : Tg} (hg : PG X tg (gTg X.K t)) (he : SE X W e f) (hs : swapsWithSole [tg] e pos.line X.env = pure false := by rfl) (hw : swappedStores [tg] e X.env = pure none := by rfl) (h1 : (assignEach [tg] X.env).map (·.2) = [assign tg X.env] := by rfl) : SS X W (.Assign [tg] e pos) (sAsg t f) :=
  ps_weak (ps_asg he hg hs hw h1) fun D σ H ⟨m, sg, st, e, rm, rs, hp⟩ => ⟨m, sg, st, e, rm, rs, flwc hp rs fun m1 y v st1 e1 r1 q1 hp1 => by
    split at hp1
    · rename_i sg1 h
      exact tg_of (ws := []) r1 h q1 (rs.mono e1) fun σ' s' _ => hp1 m1 σ' (Ext.refl _) r1 s'
    · exact False.elim hp1⟩
/-- a, b = x, y -/
@[simp] def sPar (i j : Nat) (g : AF) : SF := fun sg st => (g sg st).flw sg fun l st1 => match l with
  | [d, d'] => .nx ((sg.set i (some d)).set j (some d')) st1
  | _ => .bad
theorem ss_par {i j : Nat} {x y : Str} {px py pt : Pos} {kt k2 pt2} (hc : X.calm = true) (hN : X.N.Nodup) (hi : X.N[i]? = some x) (hj : X.N[j]? = some y) (hij : i ≠ j)
    (hx : X.env.scope.names.lookup x = some .local) (hy : X.env.scope.names.lookup y = some .local) (ha : SA X W [a, b] g)
    (hw : swappedStores [.Tuple [.Name x px, .Name y py] kt pt] (.Tuple [a, b] k2 pt2) X.env = pure (some [x, y]))
    (hs : swapsWithSole [.Tuple [.Name x px, .Name y py] kt pt] (.Tuple [a, b] k2 pt2) pos.line X.env = pure false := by rfl) : SS X W (.Assign [.Tuple [.Name x px, .Name y py] kt pt] (.Tuple [a, b] k2 pt2) pos) (sPar i j g) :=
  ps_weak (ps_par hc hN hi hj hij hx hy ha hw hs) fun D σ H ⟨m, sg, st, e, rm, rs, hp⟩ => ⟨m, sg, st, e, rm, rs, flwc hp rs fun m1 l vs st1 e1 r1 q1 hp1 => by
    split at hp1
    · obtain ⟨v, w, rfl, h1, h2⟩ := reps2 (X := X) q1
      exact ⟨v, w, rfl, hp1 m1 _ (Ext.refl _) r1 (((rs.mono e1).set i h1).set j h2)⟩
    · exact False.elim hp1⟩
/-- x += e -/
@[simp] def sAug (i : Nat) (sem : D → D → Sto → Res D) (f : EF) : SF := fun sg st => match sg[i]? with
  | some (some x) => ((f sg st).bind fun y st1 => sem x y st1).flw sg fun d st1 => .nx (sg.set i (some d)) st1
  | _ => .bad
theorem ss_aug {i : Nat} {op : Operator} {r : TIp} {sem : D → D → Sto → Res D} (hN : X.N.Nodup) (hi : X.N[i]? = some x) (hx : Loc X.env.scope x) (ho : PIp X op r) (hs : Fits2 X W r sem) (he : SE X W e f) (hf : X.fn x = true ∨ X.env.scope.names.lookup x = some .local := by first | exact .inl rfl | exact .inr rfl | assumption) :
    SS X W (.AugAssign (.Name x pos') op e pos) (sAug i sem f) :=
  ps_weak (ps_aug hN hi hx he ho hf) fun D σ H ⟨m, sg, st, e, rm, rs, hp⟩ => by
    unfold sAug at hp
    split at hp
    · rename_i d q
      obtain ⟨v, h1, h2⟩ := rs.2.1 i d q
      refine ⟨v, h1, m, sg, st, e, rm, rs, ?_⟩
      have hp' := flwc (R := RD X.K X.mg) (Q := fun z H3 => D.nx (σ.set i (some z)) H3) hp rs fun m1 y v st1 e1 r1 q1 hp1 => hp1 m1 _ (Ext.refl _) r1 ((rs.mono e1).set i q1)
      exact hp'.bindc fun m1 y w st1 e1 r1 q1 hp1 => hs m1 st1 σ d y v w _ r1 (h2.mono e1) q1 hp1
    · exact False.elim hp
def dAddI : D → D → Sto → Res D
  | .int i, .int j, st => .ok (.int (i + j)) st
  | _, _, _ => .bad
theorem fits_ipadd : Fits2 X W (ipI fun i j => i + j) dAddI := by
  intro m st σ x y v w Q rm ra rb hp
  unfold dAddI at hp
  split at hp
  · cases ra; cases rb; exact ⟨_, _, rfl, rfl, hp.okc rm (.int _)⟩
  · exact False.elim hp
theorem fits_ipsub : Fits2 X W (ipI fun i j => i - j) dSub := by
  intro m st σ x y v w Q rm ra rb hp
  unfold dSub at hp
  split at hp
  · cases ra; cases rb; exact ⟨_, _, rfl, rfl, hp.okc rm (.int _)⟩
  · exact False.elim hp
/-- o[i] = e -/
def stSet (x : D) (i : Int) (d : D) (st : Sto) : Option Sto := match x with
  | .loc n => match st[n]? with
    | some (.lst l) => match ixN l.length i with
      | some j => some (st.set n (.lst (l.set j d)))
      | none => none
    | _ => none
  | _ => none
def rSub (fo fi f : EF) : Sg → Sto → Res Unit := fun sg st => (f sg st).bind fun d st1 => (fo sg st1).bind fun x st2 => (fi sg st2).bind fun i st3 => match i with
  | .int i => match stSet x i d st3 with
    | some st4 => .ok () st4
    | none => .bad
  | _ => .bad
@[simp] def sSub (fo fi f : EF) : SF := fun sg st => (rSub fo fi f sg st).flw sg fun _ st4 => .nx sg st4
theorem ss_sub {fi : EF} {ps : Pos} (ho : SE X W o fo) (hi : SE X W b fi) (he : SE X W e f) (hs : swapsWithSole [.Subscript o b ps] e pos.line X.env = pure false := by rfl) (hw : swappedStores [.Subscript o b ps] e X.env = pure none := by rfl) (h1 : (assignEach [.Subscript o b ps] X.env).map (·.2) = [assign (.Subscript o b ps) X.env] := by rfl)
    (ha : ∀ v, assign (.Subscript o b ps) X.env v = (do
      let ov ← holding [v] (eval o X.env)
      let iv ← holding [v, ov] (eval b X.env)
      standAt ps
      holding [v, ov, iv] (setItem ov iv v)
      release [v, ov, iv] []) := by intro _; rfl) : SS X W (.Assign [.Subscript o b ps] e pos) (sSub fo fi f) :=
  ps_weak (ps_asg he (pg_sub ho hi set_list ha) hs hw h1) fun D σ H ⟨m, sg, st, e, rm, rs, hp⟩ => ⟨m, sg, st, e, rm, rs, by
    have hp' := flwc (r := rSub fo fi f sg st) (R := fun _ _ _ => True) (β := Unit) (Q := fun _ H3 => D.nx σ H3) hp rs fun m1 y v st1 e1 r1 q1 hp1 => hp1 m1 _ (Ext.refl _) r1 (rs.mono e1)
    unfold rSub at hp'
    refine hp'.bindc fun m1 d v st1 e1 r1 q1 hp1 => ⟨m1, sg, st1, rfl, r1, rs.mono e1, hp1.bindc fun m2 x w st2 e2 r2 q2 hp2 => ⟨m2, sg, st2, rfl, r2, (rs.mono e1).mono e2, hp2.bindc fun m3 i u st3 e3 r3 q3 hp3 => ?_⟩⟩
    split at hp3
    · rename_i i
      split at hp3
      · rename_i st4 hst
        cases q3
        unfold stSet at hst
        split at hst
        · split at hst
          · rename_i l hl
            split at hst
            · rename_i j hj
              cases hst
              have q2' := q2.mono e3
              cases q2' with
              | loc hr =>
                obtain ⟨vs, k1, k2⟩ := r3.obj _ _ _ hr hl
                refine ⟨_, vs, i, j, rfl, rfl, k1, by rw [← k2.length]; exact hj, ?_⟩
                exact hp3 (m3.put _ (.lst (vs.set j v))) () (Ext.put (List.mem_of_getElem? hr)) (r3.put hr ⟨_, upd_same, k2.set ((q1.mono e2).mono e3) j⟩) trivial
            · cases hst
          · cases hst
        · cases hst
      · exact False.elim hp3
    · exact False.elim hp3⟩
end
end Sh
/-! Part F: loops over things, comprehensions, objects made, errors, defs. -/
namespace Sh
open PySem L2
section
variable {X : Cx} {W : We} {e o a b c : Expr} {es : List Expr} {f fo fa fb : EF} {g : AF} {pos p apos pos' p2 : Pos} {x : Str} {gs hs : SF} {st : Stmt} {rest body : List Stmt}
/-! what is walked -/
def ItOk (K : PySem.W.Frag) (mg : Str → Option Value) (m : Hw) (J : It) (l : List D) (ck : Sto → Prop) : Prop := ∀ m1 st1, Ext m m1 → Rel K mg m1 st1 → ck st1 → ∀ i : Nat, (l.length ≤ i → J.stop i m1.h) ∧ ∀ d, l[i]? = some d → J.go i m1.h ∧ ∀ x H', J.yld i m1.h x H' → ∃ m2, m2.h = H' ∧ Ext m1 m2 ∧ Rel K mg m2 st1 ∧ Rep K mg m2.r m2.g d x
structure Wk where
  l : List D
  ck : Sto → Prop
abbrev IF := Sg → Sto → Res Wk
def IOf (K : PySem.W.Frag) (mg : Str → Option Value) (W : We) (f : IF) : TI := fun σ H R => ∃ m sg st, m.h = H ∧ Rel K mg m st ∧ SgRep K mg W.e m sg σ ∧ Post K mg W.w m σ (fun m1 w J => ItOk K mg m1 J w.l w.ck) R (f sg st)
def SI (X : Cx) (W : We) (tg iter : Expr) (f : IF) : Prop := PI X tg iter (IOf X.K X.mg W f)
theorem pi_weak {X : Cx} {tg e : Expr} {t t' : TI} (h : PI X tg e t) (i : ∀ σ H Q, t' σ H Q → t σ H Q) : PI X tg e t' := ⟨fun pins s σ H Q I q => h.run pins s σ H Q I (i σ H Q q)⟩
variable {tg iter : Expr}
@[simp] def iSeq (f : EF) : IF := fun sg st => (f sg st).bind fun x st1 => match x with
  | .lst l => .ok ⟨l, fun _ => True⟩ st1
  | .scr l => .ok ⟨l.map .int, fun _ => True⟩ st1
  | .loc n => match st1[n]? with
    | some (.lst l) => .ok ⟨l, fun st => st[n]? = some (.lst l)⟩ st1
    | _ => .bad
  | _ => .bad
@[simp] def iTupD (f : EF) : IF := fun sg st => (f sg st).bind fun x st1 => match x with
  | .tup l => .ok ⟨l, fun _ => True⟩ st1
  | _ => .bad
theorem itl_ok {K : PySem.W.Frag} {mg : Str → Option Value} {m : Hw} {a : Addr} {l : List D} {ck : Sto → Prop} (h : ∀ m1 st1, Ext m m1 → Rel K mg m1 st1 → ck st1 → ∃ vs, SqL K m1.h a vs ∧ Reps K mg m1.r m1.g l vs) : ItOk K mg m (Itl K a) l ck := by
  intro m1 st1 e1 r1 c1 i
  obtain ⟨vs, h1, h2⟩ := h m1 st1 e1 r1 c1
  refine ⟨fun hl => ⟨vs, h1, by rw [← h2.length]; exact hl⟩, fun d hd => ?_⟩
  obtain ⟨v, k1, k2⟩ := h2.get hd
  refine ⟨⟨vs, v, h1, k1⟩, fun x H' ⟨e, y⟩ => ⟨m1, e.symm, Ext.refl _, r1, ?_⟩⟩
  have := y vs h1
  rw [k1] at this
  cases this
  exact k2
theorem itt_ok {K : PySem.W.Frag} {mg : Str → Option Value} {m : Hw} {a : Addr} {l : List D} {ck : Sto → Prop} (h : ∀ m1 st1, Ext m m1 → Rel K mg m1 st1 → ck st1 → ∃ vs, SqT K m1.h a vs ∧ Reps K mg m1.r m1.g l vs) : ItOk K mg m (Itt K a) l ck := by
  intro m1 st1 e1 r1 c1 i
  obtain ⟨vs, h1, h2⟩ := h m1 st1 e1 r1 c1
  refine ⟨fun hl => ⟨vs, h1, by rw [← h2.length]; exact hl⟩, fun d hd => ?_⟩
  obtain ⟨v, k1, k2⟩ := h2.get hd
  refine ⟨⟨vs, v, h1, k1⟩, fun x H' ⟨e, y⟩ => ⟨m1, e.symm, Ext.refl _, r1, ?_⟩⟩
  have := y vs h1
  rw [k1] at this
  cases this
  exact k2
theorem si_seq (he : SE X W iter f) : SI X W tg iter (iSeq f) :=
  pi_weak (pi_list he) fun σ H R ⟨m, sg, st, e, rm, rs, hp⟩ => ⟨m, sg, st, e, rm, rs, hp.bindc fun m1 x v st1 e1 r1 q1 hp1 => by
    split at hp1
    · cases q1 with
      | lst h1 h2 => exact ⟨_, rfl, ⟨_, .of (r1.sub _ _ h1)⟩, hp1.okc r1 (itl_ok fun m2 st2 e2 r2 _ => ⟨_, .of (r2.sub _ _ (e2.g _ _ h1)), h2.mono e2⟩)⟩
    · cases q1 with
      | scr h1 => exact ⟨_, rfl, ⟨_, sqL_mono r1.sub h1⟩, hp1.okc r1 (itl_ok fun m2 st2 e2 r2 _ => ⟨_, sqL_mono r2.sub (sqL_mono e2.g h1), reps_ints (X := X) _⟩)⟩
    · cases q1 with
      | loc h1 =>
        split at hp1
        · rename_i l hl
          obtain ⟨vs, k1, k2⟩ := r1.obj _ _ _ h1 hl
          refine ⟨_, rfl, ⟨_, .of k1⟩, hp1.okc r1 (itl_ok fun m2 st2 e2 r2 hc => ?_)⟩
          obtain ⟨ws, k3, k4⟩ := r2.obj _ _ _ (e2.at_ h1) hc
          exact ⟨ws, .of k3, k4⟩
        · exact False.elim hp1
    · exact False.elim hp1⟩
theorem si_tup (he : SE X W iter f) : SI X W tg iter (iTupD f) :=
  pi_weak (pi_tup he) fun σ H R ⟨m, sg, st, e, rm, rs, hp⟩ => ⟨m, sg, st, e, rm, rs, hp.bindc fun m1 x v st1 e1 r1 q1 hp1 => by
    split at hp1
    · cases q1 with
      | tup h1 h2 => exact ⟨_, rfl, ⟨_, sqT_mono r1.sub h1⟩, hp1.okc r1 (itt_ok fun m2 st2 e2 r2 _ => ⟨_, sqT_mono r2.sub (sqT_mono e2.g h1), h2.mono e2⟩)⟩
    · exact False.elim hp1⟩
def rngD (lo : Int) (n : Nat) : List D := (List.range n).map fun (i : Nat) => .int (lo + (i : Int))
theorem itr_ok {K : PySem.W.Frag} {mg : Str → Option Value} {m : Hw} {lo : Int} {n : Nat} {ck : Sto → Prop} : ItOk K mg m (Itr lo n) (rngD lo n) ck := by
  intro m1 st1 e1 r1 c1 i
  refine ⟨fun hl => by
    have hl' : n ≤ i := by simpa [rngD] using hl
    exact hl', fun d hd => ?_⟩
  unfold rngD at hd
  rw [List.getElem?_map] at hd
  by_cases hi : i < n
  · rw [List.getElem?_range hi] at hd
    cases hd
    exact ⟨hi, fun x H' ⟨e, y⟩ => ⟨m1, e.symm, Ext.refl _, r1, by rw [y]; exact .int _⟩⟩
  · rw [List.getElem?_eq_none (by simpa using hi)] at hd
    cases hd
@[simp] def iRange1 (g : AF) : IF := fun sg st => (g sg st).bind fun l st1 => match l with
  | [.int j] => if -(2 ^ 62) ≤ j ∧ j < 2 ^ 62 then .ok ⟨rngD 0 j.toNat, fun _ => True⟩ st1 else .bad
  | _ => .bad
@[simp] def iRange2 (g : AF) : IF := fun sg st => (g sg st).bind fun l st1 => match l with
  | [.int i, .int j] => if -(2 ^ 62) ≤ i ∧ i < 2 ^ 62 ∧ -(2 ^ 62) ≤ j ∧ j < 2 ^ 62 then .ok ⟨rngD i (j - i).toNat, fun _ => True⟩ st1 else .bad
  | _ => .bad
theorem si_range1 (hg : Gl X "range") (hm : X.mg "range" = none) (ha : SA X W [a] g) (hs : starEach [a] X.env = [(false, eval a X.env)] := by rfl) : SI X W tg (.Call (.Name "range" p) [a] [] pos) (iRange1 g) :=
  pi_weak (pi_range1 hg hm ha hs) fun σ H R ⟨m, sg, st, e, rm, rs, hp⟩ => ⟨m, sg, st, e, rm, rs, hp.bindc fun m1 l vs st1 e1 r1 q1 hp1 => by
    split at hp1
    · obtain ⟨v, rfl, hv⟩ := reps1 (X := X) q1
      cases hv
      split at hp1
      · rename_i h
        exact ⟨_, rfl, h.1, h.2, hp1.okc r1 itr_ok⟩
      · exact False.elim hp1
    · exact False.elim hp1⟩
theorem si_range2 (hg : Gl X "range") (hm : X.mg "range" = none) (ha : SA X W [a, b] g) (hs : starEach [a, b] X.env = [(false, eval a X.env), (false, eval b X.env)] := by rfl) (hs2 : starEach [b] X.env = [(false, eval b X.env)] := by rfl) : SI X W tg (.Call (.Name "range" p) [a, b] [] pos) (iRange2 g) :=
  pi_weak (pi_range2 hg hm ha hs hs2) fun σ H R ⟨m, sg, st, e, rm, rs, hp⟩ => ⟨m, sg, st, e, rm, rs, hp.bindc fun m1 l vs st1 e1 r1 q1 hp1 => by
    split at hp1
    · obtain ⟨v, w, rfl, hv, hw⟩ := reps2 (X := X) q1
      cases hv; cases hw
      split at hp1
      · rename_i h
        exact ⟨_, _, rfl, h, hp1.okc r1 itr_ok⟩
      · exact False.elim hp1
    · exact False.elim hp1⟩
/-! for -/
open Classical in
noncomputable def forF (ck : Sto → Prop) (t : Tg) (g : SF) : List D → SF
  | [], sg, st => if ck st then .nx sg st else .bad
  | d :: r, sg, st => if ck st then (match setT t d sg with
    | some sg1 => (g sg1 st).loop (forF ck t g r)
    | none => .bad) else .bad
@[simp] noncomputable def sFor (f : IF) (t : Tg) (g : SF) : SF := fun sg st => (f sg st).flw sg fun w st1 => forF w.ck t g w.l sg st1
theorem ss_for {t : Tg} {fi : IF} (hpo : PassesOwn (model X.prog X.w) X.A X.env X.xe) (hc : X.calm = true) (hi : SI X W tg iter fi) (hg : PG X tg (gTg X.K t)) (hb : SSs X W body gs) (hs : ∀ x, foldedSetIterable iter X.env x = pure x := by intro _; rfl) : SS X W (.For tg iter body [] pos) (sFor fi t gs) :=
  ps_weak (ps_for hpo hc hi hg hb hs) fun D σ H ⟨m, sg, st, e, rm, rs, hp⟩ => ⟨m, sg, st, e, rm, rs, flwc hp rs fun m0 w J st0 e0 r0 it hp0 => by
    refine ⟨fun i k σ H => k = w.l.length - i ∧ i ≤ w.l.length ∧ ∃ m1 sg st, m1.h = H ∧ Ext m0 m1 ∧ Rel X.K X.mg m1 st ∧ SgRep X.K X.mg W.e m1 sg σ ∧ PostS X.K X.mg W m1 D (forF w.ck t gs (w.l.drop i) sg st), ⟨w.l.length, by simp, Nat.zero_le _, m0, sg, st0, rfl, Ext.refl _, r0, rs.mono e0, by simpa using hp0⟩, ?_⟩
    rintro i k σ1 H1 ⟨rfl, hi, m1, sg1, st1, rfl, e1, r1, s1, p1⟩
    by_cases hlt : i < w.l.length
    · rw [List.drop_eq_getElem_cons hlt] at p1
      unfold forF at p1
      split at p1
      · rename_i hck
        obtain ⟨_, hgo⟩ := it m1 st1 e1 r1 hck i
        obtain ⟨k1, k2⟩ := hgo w.l[i] (List.getElem?_eq_getElem hlt)
        refine .inr ⟨k1, fun σ H => ∃ m1 sg st, m1.h = H ∧ Ext m0 m1 ∧ Rel X.K X.mg m1 st ∧ SgRep X.K X.mg W.e m1 sg σ ∧ PostS X.K X.mg W m1 D (forF w.ck t gs (w.l.drop (i + 1)) sg st), fun σ' H' z => ⟨w.l.length - (i + 1), by omega, rfl, hlt, z⟩, fun y H' hy => ?_⟩
        obtain ⟨m2, rfl, e2, r2, q2⟩ := k2 y H' hy
        split at p1
        · rename_i sg2 hsg
          exact tg_of (ws := []) r2 hsg q2 (s1.mono e2) fun σ' s' _ => ⟨m2, sg2, st1, rfl, r2, s', loopc (PostS.mono p1 e2) fun m3 σ3 sg3 st3 e3 r3 s3 p3 => ⟨m3, sg3, st3, rfl, (e1.trans e2).trans e3, r3, s3, p3⟩⟩
        · exact False.elim p1
      · exact False.elim p1
    · have : i = w.l.length := by omega
      subst this
      rw [List.drop_length] at p1
      unfold forF at p1
      split at p1
      · rename_i hck
        exact .inl ⟨(it m1 st1 e1 r1 hck _).1 (Nat.le_refl _), p1 m1 σ1 (Ext.refl _) r1 s1⟩
      · exact False.elim p1⟩
/-! comprehensions -/
@[simp] def Res.noex {α : Type} : Res α → Res α
  | .exc _ _ _ => .bad
  | r => r
@[simp] def wipeD (sg : Sg) : List Nat → Sg
  | [] => sg
  | v :: vs => (wipeD sg vs).set v none
theorem wipe_rep {K : PySem.W.Frag} {mg : Str → Option Value} {y : Option Ex} {m : Hw} {sg : Sg} {σ : St} (h : SgRep K mg y m sg σ) : ∀ vs : List Nat, (∀ z, y = some z → z.i ∉ vs) → SgRep K mg y m (wipeD sg vs) (wipe σ vs)
  | [], _ => h
  | v :: vs, hv => (wipe_rep h vs fun z q w => hv z q (List.mem_cons_of_mem _ w)).unset v fun z q w => hv z q (w ▸ List.mem_cons_self)
open Classical in
noncomputable def lcF (ck : Sto → Prop) (t : Tg) (c : TF) (f : EF) (sg : Sg) : List D → Sto → Res (List D)
  | [], st => if ck st then .ok [] st else .bad
  | d :: r, st => if ck st then (match setT t d sg with
    | some sg1 => ((c sg1 st).noex.bind fun b st1 => if b = true then ((f sg1 st1).noex.bind fun y st2 => (lcF ck t c f sg r st2).bind fun ys st3 => .ok (y :: ys) st3) else lcF ck t c f sg r st1)
    | none => .bad) else .bad
noncomputable def lcR (ws : List Nat) (fi : IF) (t : Tg) (c : TF) (f : EF) : Sg → Sto → Res (List D) := fun sg st => (fi sg st).bind fun w st1 => if w.l.length ≤ 16777216 then (lcF w.ck t c f (wipeD sg ws) w.l st1).noex else .bad
@[simp] noncomputable def fLc (ws : List Nat) (fi : IF) (t : Tg) (c : TF) (f : EF) : EF := fun sg st => (lcR ws fi t c f sg st).bind fun l st1 => .ok (.lst l) st1
@[simp] noncomputable def fLcN (ws : List Nat) (fi : IF) (t : Tg) (c : TF) (f : EF) : EF := fun sg st => (lcR ws fi t c f sg st).bind fun l st1 => .ok (.loc st1.length) (st1 ++ [.lst l])
@[simp] def tYesD : TF := fun _ st => .ok true st
def WF (W : We) : We := ⟨fun _ _ _ _ => False, W.e⟩
theorem Post.noex {α β : Type} {K : PySem.W.Frag} {mg : Str → Option Value} {w : WX} {m : Hw} {σ σ' : St} {R : Hw → α → β → Prop} {Q : β → Hp → Prop} {r : Res α} (h : Post K mg w m σ R Q r.noex) : Post K mg (fun _ _ _ _ => False) m σ' R Q r := by
  cases r with
  | ok a st => exact h
  | exc c o st => exact False.elim h
  | bad => exact h
def STs (X : Cx) (W : We) (ifs : List Expr) (f : TF) : Prop := PTs X ifs (TOf X.K X.mg W RB f)
theorem pts_weak {X : Cx} {e : List Expr} {t t' : TT} (h : PTs X e t) (i : ∀ σ H Q, t' σ H Q → t σ H Q) : PTs X e t' := ⟨fun pins s σ H Q I q => h.run pins s σ H Q I (i σ H Q q)⟩
theorem sts_nil : STs X W [] tYesD := pts_weak pts_nil fun σ H Q ⟨m, sg, st, e, rm, rs, hp⟩ => by
  subst e; exact hp.okc rm rfl
theorem sts_one {t : TF} (h : SB X W c t) : STs X W [c] t := pts_one h
theorem Rel.side {K : PySem.W.Frag} {mg : Str → Option Value} {m : Hw} {st : Sto} (R : Rel K mg m st) {p : Addr} {o : HO} (h1 : p ∉ m.r) (h2 : m.g p = none) : Rel K mg (m.put p o) st := by
  refine ⟨fun a u e => ?_, R.len, R.nd, R.off, fun n a so e1 e2 => ?_⟩
  · show upd m.h p o a = some u
    rw [upd_ne (ne_of_none e h2)]; exact R.sub a u e
  · have : a ≠ p := fun z => h1 (z ▸ List.mem_of_getElem? e1)
    refine (R.obj n a so e1 e2).mono' (fun _ _ z => z) (fun _ _ z => z) fun u q => ?_
    show upd m.h p o a = some u
    rw [upd_ne this]; exact q
theorem Ext.side {m0 m : Hw} (e : Ext m0 m) {p : Addr} {o : HO} (h : m0.h p = none) : Ext m0 (m.put p o) := by
  refine ⟨e.pre, e.g, fun a u q n => ?_⟩
  obtain ⟨h1, h2, h3⟩ := e.fr a u q n
  refine ⟨?_, h2, h3⟩
  show upd m.h p o a = some u
  rw [upd_ne (ne_of_none q h)]; exact h1
theorem wipe_wipe {σ : St} (ws : List Nat) : ∀ vs : List Nat, (∀ j ∈ vs, j ∈ ws) → wipe (wipe σ vs) ws = wipe σ ws
  | [], _ => rfl
  | v :: vs, h => by
    show wipe ((wipe σ vs).set v none) ws = _
    rw [wipe_set (h v List.mem_cons_self)]
    exact wipe_wipe ws vs fun j hj => h j (List.mem_cons_of_mem _ hj)
/-- the loop of a comprehension: Dl is the new list -/
theorem lc_ok {t : Tg} {ct : TF} {fe : EF} {ws : List Nat} {σ : St} {sg : Sg} {m0 : Hw} {J : It} {w : Wk} {st0 : Sto} {Qd : V → Hp → Prop} (hw : ∀ i ∈ tgSl t, i ∈ ws) (hlen : w.l.length ≤ 16777216) (it : ItOk X.K X.mg m0 J w.l w.ck) (r0 : Rel X.K X.mg m0 st0) (rs : SgRep X.K X.mg W.e m0 sg σ) (hne : ∀ z, W.e = some z → z.i ∉ ws)
    (R : List D → Sto → Prop) (Dl : Addr) (hD : m0.h Dl = none) (start : ∃ l st, lcF w.ck t ct fe (wipeD sg ws) w.l st0 = .ok l st ∧ R l st)
    (fin : ∀ m1 l vs st, Ext m0 m1 → m1.h Dl = some (.lst vs) → Dl ∉ m1.r → m1.g Dl = none → Rel X.K X.mg m1 st → Reps X.K X.mg m1.r m1.g l vs → R l st → Qd (.ref Dl) m1.h) :
    ∃ Wd : Nat → Nat → Hp → Prop, (∃ k, Wd 0 k (upd m0.h Dl (.lst []))) ∧ ∀ i k H, Wd i k H →
      (J.stop i H ∧ Qd (.ref Dl) H) ∨ (J.go i H ∧ ∃ Nx : Hp → Prop, (∀ H', Nx H' → ∃ k', k' < k ∧ Wd (i + 1) k' H') ∧ ∀ x H', J.yld i H x H' → gTg X.K t x (wipe σ ws) H' fun σ2 H2 => wipe σ2 ws = wipe σ ws ∧ (TOf X.K X.mg (WF W) RB ct) σ2 H2 fun b H3 =>
        if b = true then (TOf X.K X.mg (WF W) (RD X.K X.mg) fe) σ2 H3 fun y H4 => ∃ acc, H4 Dl = some (.lst acc) ∧ acc.length < sizeLine ∧ Nx (upd H4 Dl (.lst (acc ++ [y]))) else Nx H3) := by
  refine ⟨fun i k H => k = w.l.length - i ∧ i ≤ w.l.length ∧ ∃ m1 st1 acc vs, m1.h = H ∧ Ext m0 m1 ∧ m1.h Dl = some (.lst vs) ∧ Dl ∉ m1.r ∧ m1.g Dl = none ∧ Rel X.K X.mg m1 st1 ∧ Reps X.K X.mg m1.r m1.g acc vs ∧ acc.length ≤ i ∧
    ∃ l st, lcF w.ck t ct fe (wipeD sg ws) (w.l.drop i) st1 = .ok l st ∧ R (acc ++ l) st, ?_, ?_⟩
  · refine ⟨w.l.length, by simp, Nat.zero_le _, m0.put Dl (.lst []), st0, [], [], rfl, (Ext.refl m0).side hD, upd_same, r0.fresh hD, r0.gnone hD, r0.side (r0.fresh hD) (r0.gnone hD), .nil, Nat.zero_le _, ?_⟩
    simpa using start
  rintro i k H ⟨rfl, hi, m1, st1, acc, vs, rfl, e1, d1, d2, d3, r1, q1, ha, l, st, hl, hR⟩
  have s1 : SgRep X.K X.mg W.e m1 (wipeD sg ws) (wipe σ ws) := wipe_rep (rs.mono e1) ws hne
  by_cases hlt : i < w.l.length
  · rw [List.drop_eq_getElem_cons hlt] at hl
    unfold lcF at hl
    split at hl
    · rename_i hck
      obtain ⟨_, hgo⟩ := it m1 st1 e1 r1 hck i
      obtain ⟨k1, k2⟩ := hgo w.l[i] (List.getElem?_eq_getElem hlt)
      refine .inr ⟨k1, fun H => ∃ m1 st1 acc vs, m1.h = H ∧ Ext m0 m1 ∧ m1.h Dl = some (.lst vs) ∧ Dl ∉ m1.r ∧ m1.g Dl = none ∧ Rel X.K X.mg m1 st1 ∧ Reps X.K X.mg m1.r m1.g acc vs ∧ acc.length ≤ i + 1 ∧
        ∃ l st, lcF w.ck t ct fe (wipeD sg ws) (w.l.drop (i + 1)) st1 = .ok l st ∧ R (acc ++ l) st, fun H' z => ⟨w.l.length - (i + 1), by omega, rfl, hlt, z⟩, fun y H' hy => ?_⟩
      obtain ⟨m2, rfl, e2, r2, q2⟩ := k2 y H' hy
      split at hl
      · rename_i sg2 hsg
        refine tg_of (ws := ws) r2 hsg q2 (s1.mono e2) fun σ' s' hws => ⟨?_, ?_⟩
        · rw [hws hw]
          exact wipe_wipe ws ws fun _ h => h
        · have f2 := e2.fr Dl _ d1 d2
          cases hc : ct sg2 st1 with
          | exc c o s => rw [hc] at hl; simp at hl
          | bad => rw [hc] at hl; simp at hl
          | ok b st2 =>
            rw [hc] at hl
            simp only [Res.noex, Res.bind] at hl
            refine ⟨m2, sg2, st1, rfl, r2, s', ?_⟩
            rw [hc]
            intro m3 b' e3 r3 hb
            cases hb
            have f3 := e3.fr Dl _ f2.1 f2.2.1
            cases b with
            | false =>
              rw [if_neg Bool.false_ne_true] at hl
              exact iteF ⟨m3, st2, acc, vs, rfl, (e1.trans e2).trans e3, f3.1, f3.2.1, f3.2.2 (f2.2.2 d3), r3, (q1.mono e2).mono e3, by omega, l, st, hl, hR⟩
            | true =>
              rw [if_pos rfl] at hl
              refine iteT ?_
              cases hf : fe sg2 st2 with
              | exc c o s => rw [hf] at hl; simp at hl
              | bad => rw [hf] at hl; simp at hl
              | ok d st3 =>
                rw [hf] at hl
                simp only [Res.noex, Res.bind] at hl
                refine ⟨m3, sg2, st2, rfl, r3, s'.mono e3, ?_⟩
                rw [hf]
                intro m4 v e4 r4 q4
                have f4 := e4.fr Dl _ f3.1 f3.2.1
                have q1' := ((q1.mono e2).mono e3).mono e4
                have hsz : vs.length < sizeLine := by
                  rw [← q1.length, sizeLine_eq]
                  omega
                refine ⟨vs, f4.1, hsz, m4.put Dl (.lst (vs ++ [v])), st3, acc ++ [d], vs ++ [v], rfl, (((e1.trans e2).trans e3).trans e4).side hD, upd_same, f4.2.1, f4.2.2 (f3.2.2 (f2.2.2 d3)), r4.side f4.2.1 (f4.2.2 (f3.2.2 (f2.2.2 d3))), q1'.append (.one q4), by simp; omega, ?_⟩
                cases hr : lcF w.ck t ct fe (wipeD sg ws) (w.l.drop (i + 1)) st3 with
                | exc c o s => rw [hr] at hl; simp at hl
                | bad => rw [hr] at hl; simp at hl
                | ok ys st4 =>
                  rw [hr] at hl
                  simp only [Res.ok.injEq] at hl
                  obtain ⟨rfl, rfl⟩ := hl
                  exact ⟨ys, st4, rfl, by simpa using hR⟩
      · cases hl
    · cases hl
  · have : i = w.l.length := by omega
    subst this
    rw [List.drop_length] at hl
    unfold lcF at hl
    split at hl
    · rename_i hck
      cases hl
      rw [List.append_nil] at hR
      exact .inl ⟨(it m1 st1 e1 r1 hck _).1 (Nat.le_refl _), fin m1 acc vs st1 e1 d1 d2 d3 r1 q1 hR⟩
    · cases hl
theorem Rel.frz {K : PySem.W.Frag} {mg : Str → Option Value} {m : Hw} {st : Sto} (R : Rel K mg m st) {p : Addr} {o : HO} (h : m.h p = some o) (h1 : p ∉ m.r) : Rel K mg ⟨m.r, upd m.g p o, m.h⟩ st := by
  refine ⟨fun a u e => ?_, R.len, R.nd, fun a z => ?_, fun n a so e1 e2 => ?_⟩
  · have e : upd m.g p o a = some u := e
    by_cases q : a = p
    · subst q; rw [upd_same] at e; cases e; exact h
    · rw [upd_ne q] at e; exact R.sub a u e
  · show upd m.g p o a = none
    have : a ≠ p := fun q => h1 (q ▸ z)
    rw [upd_ne this]; exact R.off a z
  · refine (R.obj n a so e1 e2).mono' (fun _ _ z => z) (fun b u q => ?_) fun u q => q
    show upd m.g p o b = some u
    by_cases e : b = p
    · subst e
      have := R.sub _ _ q
      rw [h] at this; cases this
      exact upd_same
    · rw [upd_ne e]; exact q
theorem Ext.frz {m0 m : Hw} (e : Ext m0 m) {p : Addr} {o : HO} (h : m0.h p = none) (h1 : m.h p = some o) (hs : ∀ a u, m.g a = some u → m.h a = some u) : Ext m0 ⟨m.r, upd m.g p o, m.h⟩ := by
  refine ⟨e.pre, fun a u q => ?_, fun a u q n => ?_⟩
  · show upd m.g p o a = some u
    by_cases z : a = p
    · subst z
      have := hs _ _ (e.g _ _ q)
      rw [h1] at this; cases this
      exact upd_same
    · rw [upd_ne z]; exact e.g _ _ q
  · obtain ⟨k1, k2, k3⟩ := e.fr a u q n
    refine ⟨k1, k2, fun z => ?_⟩
    show upd m.g p o a = none
    rw [upd_ne (ne_of_none q h)]; exact k3 z
theorem bind_assoc' {α β γ : Type} {r : Res α} {f : α → Sto → Res β} {k : β → Sto → Res γ} : (r.bind f).bind k = r.bind fun a st => (f a st).bind k := by
  cases r <;> rfl
variable {t : Tg} {ct : TF} {fe : EF} {fi : IF} {ifs : List Expr} {scope : Scope} {own : List (Str × Nat)} {elt : Expr}
theorem tLc_of {σ : St} {Q : VK} {m : Hw} {sg : Sg} {st : Sto} {ws : List Nat} {k : List D → Sto → Res D} (hw : ∀ i ∈ tgSl t, i ∈ ws) (hne : ∀ z, W.e = some z → z.i ∉ ws) (rm : Rel X.K X.mg m st) (rs : SgRep X.K X.mg W.e m sg σ) (hp : Post X.K X.mg W.w m σ (RD X.K X.mg) Q ((lcR ws fi t ct fe sg st).bind k))
    (fin : ∀ m1 l st1 Dl m2 vs, Ext m m1 → m1.h Dl = none → Ext m1 m2 → m2.h Dl = some (.lst vs) → Dl ∉ m2.r → m2.g Dl = none → Rel X.K X.mg m2 st1 → Reps X.K X.mg m2.r m2.g l vs → Post X.K X.mg W.w m1 σ (RD X.K X.mg) Q (k l st1) → Q (.ref Dl) m2.h) :
    tLc (IOf X.K X.mg W fi) (gTg X.K t) (TOf X.K X.mg (WF W) RB ct) (TOf X.K X.mg (WF W) (RD X.K X.mg) fe) ws σ m.h Q := by
  unfold lcR at hp
  rw [bind_assoc'] at hp
  refine ⟨m, sg, st, rfl, rm, rs, hp.bindc fun m1 w J st1 e1 r1 it hp1 => ?_⟩
  split at hp1
  · rename_i hl
    intro Dl hD
    cases hc : lcF w.ck t ct fe (wipeD sg ws) w.l st1 with
    | bad => rw [hc] at hp1; exact False.elim hp1
    | exc c o s => rw [hc] at hp1; exact False.elim hp1
    | ok l st2 =>
      rw [hc] at hp1
      exact lc_ok hw hl it r1 (rs.mono e1) hne (fun l' st' => l' = l ∧ st' = st2) Dl hD ⟨l, st2, hc, rfl, rfl⟩ fun m2 l' vs st' e2 h1 h2 h3 r2 q2 hR => by
        obtain ⟨rfl, rfl⟩ := hR
        exact fin m1 l' st' Dl m2 vs e1 hD e2 h1 h2 h3 r2 q2 hp1
  · exact False.elim hp1
theorem lc_val {σ : St} {Q : VK} {m1 m2 : Hw} {l : List D} {st1 : Sto} {Dl : Addr} {vs : List V} (hD : m1.h Dl = none) (e2 : Ext m1 m2) (h1 : m2.h Dl = some (.lst vs)) (h2 : Dl ∉ m2.r) (r2 : Rel X.K X.mg m2 st1) (q2 : Reps X.K X.mg m2.r m2.g l vs) (hp : Post X.K X.mg W.w m1 σ (RD X.K X.mg) Q (.ok (.lst l) st1)) : Q (.ref Dl) m2.h := by
  have e3 := (Ext.refl m2).g
  refine hp ⟨m2.r, upd m2.g Dl (.lst vs), m2.h⟩ (.ref Dl) (e2.frz hD h1 r2.sub) (r2.frz h1 h2) (.lst upd_same (Reps.mono' (fun _ _ z => z) (fun b u q => ?_) _ _ q2))
  by_cases e : b = Dl
  · subst e
    have := r2.sub _ _ q
    rw [h1] at this; cases this
    exact upd_same
  · show upd m2.g Dl (.lst vs) b = some u
    rw [upd_ne e]; exact q
theorem lc_new {σ : St} {Q : VK} {m1 m2 : Hw} {l : List D} {st1 : Sto} {Dl : Addr} {vs : List V} (hD : m1.h Dl = none) (e2 : Ext m1 m2) (h1 : m2.h Dl = some (.lst vs)) (h2 : Dl ∉ m2.r) (h3 : m2.g Dl = none) (r2 : Rel X.K X.mg m2 st1) (q2 : Reps X.K X.mg m2.r m2.g l vs) (hp : Post X.K X.mg W.w m1 σ (RD X.K X.mg) Q (.ok (.loc st1.length) (st1 ++ [.lst l]))) : Q (.ref Dl) m2.h := by
  have er : ∀ (n : Nat) (a : Addr), m2.r[n]? = some a → (m2.r ++ [Dl])[n]? = some a := fun n a z => by
    rw [List.getElem?_append_left (List.getElem?_eq_some_iff.mp z).1]; exact z
  have hn : (m2.r ++ [Dl])[st1.length]? = some Dl := by
    rw [← r2.len, List.getElem?_append_right (Nat.le_refl _)]
    simp
  refine hp ⟨m2.r ++ [Dl], m2.g, m2.h⟩ (.ref Dl) ?_ ?_ (.loc hn)
  · obtain ⟨t, ht⟩ := e2.pre
    refine ⟨⟨t ++ [Dl], by rw [ht, List.append_assoc]⟩, e2.g, fun a u q n => ?_⟩
    obtain ⟨k1, k2, k3⟩ := e2.fr a u q n
    refine ⟨k1, ?_, k3⟩
    have : a ≠ Dl := ne_of_none q hD
    show a ∉ m2.r ++ [Dl]
    simp [k2, this]
  · refine ⟨r2.sub, by simp [r2.len], ?_, fun a z => ?_, fun n a so e1 e2 => ?_⟩
    · show (m2.r ++ [Dl]).Nodup
      rw [List.nodup_append]
      refine ⟨r2.nd, by simp, fun a ha b hb e => ?_⟩
      have hb' : b = Dl := by simpa using hb
      subst e
      exact h2 (hb' ▸ ha)
    · have z' : a ∈ m2.r ++ [Dl] := z
      rcases List.mem_append.mp z' with z' | z'
      · exact r2.off a z'
      · have : a = Dl := by simpa using z'
        rw [this]; exact h3
    · have e1 : (m2.r ++ [Dl])[n]? = some a := e1
      by_cases hlt : n < m2.r.length
      · rw [List.getElem?_append_left hlt] at e1
        rw [List.getElem?_append_left (by rw [← r2.len]; exact hlt)] at e2
        exact (r2.obj n a so e1 e2).mono' er (fun _ _ z => z) fun u q => q
      · have hl := r2.len
        rw [List.getElem?_append_right (by omega)] at e1 e2
        have h0 : n - m2.r.length = 0 := by
          cases z : n - m2.r.length with
          | zero => rfl
          | succ k => rw [z] at e1; simp at e1
        have h0' : n - st1.length = 0 := by omega
        rw [h0] at e1; rw [h0'] at e2
        simp at e1 e2
        subst e1; subst e2
        exact ⟨vs, h1, Reps.mono' er (fun _ _ z => z) _ _ q2⟩
section
variable (hc : X.calm = true) (hN : X.N.Nodup) (hi : SI X W tg iter fi) (ok : BlkOk X.N X.env.scope scope own) (hw : ∀ i ∈ tgSl t, i ∈ own.map (·.2))
  (hg : ∀ (s : Shared) (H : Hp) (C : Addr) (cl : List (Str × Addr)) (fp : List Addr), PG (X.blk s H scope (compEnvC scope cl C X.env) fp) tg (gTg X.K t)) (ht : ∀ (s : Shared) (H : Hp) (C : Addr) (cl : List (Str × Addr)) (fp : List Addr), STs (X.blk s H scope (compEnvC scope cl C X.env) fp) (WF W) ifs ct)
  (he : ∀ (s : Shared) (H : Hp) (C : Addr) (cl : List (Str × Addr)) (fp : List Addr), SE (X.blk s H scope (compEnvC scope cl C X.env) fp) (WF W) elt fe) (hfs : ∀ x, foldedSetIterable iter X.env x = pure x)
include hc hN hi ok hw hg ht he hfs
theorem se_lc (hne : ∀ z, W.e = some z → z.i ∉ own.map (·.2) := by first | (intro _ h; cases h; done) | (intro _ h; cases h; decide)) : SE X W (.ListComp elt [⟨tg, iter, ifs, 0⟩] scope pos) (fLc (own.map (·.2)) fi t ct fe) :=
  pe_weak (pe_lc (tt := TOf X.K X.mg (WF W) RB ct) (te := TOf X.K X.mg (WF W) (RD X.K X.mg) fe) hc hN hi ok hg ht he hfs) fun σ H Q ⟨m, sg, st, e, rm, rs, hp⟩ => by
    subst e
    exact tLc_of hw hne rm rs hp fun m1 l st1 Dl m2 vs e1 hD e2 h1 h2 h3 r2 q2 hp1 => lc_val hD e2 h1 h2 r2 q2 hp1
theorem se_lcN (hne : ∀ z, W.e = some z → z.i ∉ own.map (·.2) := by first | (intro _ h; cases h; done) | (intro _ h; cases h; decide)) : SE X W (.ListComp elt [⟨tg, iter, ifs, 0⟩] scope pos) (fLcN (own.map (·.2)) fi t ct fe) :=
  pe_weak (pe_lc (tt := TOf X.K X.mg (WF W) RB ct) (te := TOf X.K X.mg (WF W) (RD X.K X.mg) fe) hc hN hi ok hg ht he hfs) fun σ H Q ⟨m, sg, st, e, rm, rs, hp⟩ => by
    subst e
    exact tLc_of hw hne rm rs hp fun m1 l st1 Dl m2 vs e1 hD e2 h1 h2 h3 r2 q2 hp1 => lc_new hD e2 h1 h2 h3 r2 q2 hp1
variable {i : Nat} {y : Str} {py spos : Pos} (hy : X.N[i]? = some y) (hyl : X.env.scope.names.lookup y = some .local) (hsw : swapsWith (.ListComp elt [⟨tg, iter, ifs, 0⟩] scope pos) (some (.Name y py)) spos.line X.env = pure true)
include hy hyl hsw
theorem ss_setLc (hne : ∀ z, W.e = some z → z.i ∉ own.map (·.2) := by first | (intro _ h; cases h; done) | (intro _ h; cases h; decide)) : SS X W (.Assign [.Name y py] (.ListComp elt [⟨tg, iter, ifs, 0⟩] scope pos) spos) (sSet i (fLc (own.map (·.2)) fi t ct fe)) :=
  ps_weak (ps_setLc (tt := TOf X.K X.mg (WF W) RB ct) (te := TOf X.K X.mg (WF W) (RD X.K X.mg) fe) hc hN hy hyl hsw hi ok hg ht he hfs) fun D σ H ⟨m, sg, st, e, rm, rs, hp⟩ => by
    subst e
    have hp' := flwc (R := RD X.K X.mg) (Q := fun z H3 => D.nx (σ.set i (some z)) H3) hp rs fun m1 y v st1 e1 r1 q1 hp1 => hp1 m1 _ (Ext.refl _) r1 ((rs.mono e1).set i q1)
    exact tLc_of hw hne rm rs hp' fun m1 l st1 Dl m2 vs e1 hD e2 h1 h2 h3 r2 q2 hp1 => lc_val hD e2 h1 h2 r2 q2 hp1
theorem ss_setLcN (hne : ∀ z, W.e = some z → z.i ∉ own.map (·.2) := by first | (intro _ h; cases h; done) | (intro _ h; cases h; decide)) : SS X W (.Assign [.Name y py] (.ListComp elt [⟨tg, iter, ifs, 0⟩] scope pos) spos) (sSet i (fLcN (own.map (·.2)) fi t ct fe)) :=
  ps_weak (ps_setLc (tt := TOf X.K X.mg (WF W) RB ct) (te := TOf X.K X.mg (WF W) (RD X.K X.mg) fe) hc hN hy hyl hsw hi ok hg ht he hfs) fun D σ H ⟨m, sg, st, e, rm, rs, hp⟩ => by
    subst e
    have hp' := flwc (R := RD X.K X.mg) (Q := fun z H3 => D.nx (σ.set i (some z)) H3) hp rs fun m1 y v st1 e1 r1 q1 hp1 => hp1 m1 _ (Ext.refl _) r1 ((rs.mono e1).set i q1)
    exact tLc_of hw hne rm rs hp' fun m1 l st1 Dl m2 vs e1 hD e2 h1 h2 h3 r2 q2 hp1 => lc_new hD e2 h1 h2 h3 r2 q2 hp1
end

/-! objects made -/
open Classical in
/-- an object of the class c, made by its __init__ and then only read -/
noncomputable def mkG (c : Nat) (Fk : D → Sto → Res D) : Sto → Res D := fun st => match Fk (.loc st.length) (st ++ [.ins c []]) with
  | .ok .non st2 => if st2.take st.length = st ∧ st2.length = st.length + 1 then (match st2[st.length]? with
    | some (.ins c' l') => if c' = c ∧ pus l' = true then .ok (.ins c l') st else .bad
    | _ => .bad) else .bad
  | .exc x o st2 => if st2.take st.length = st ∧ (∀ d, o = some d → pu d = true) then .exc x o st else .bad
  | _ => .bad
noncomputable def mkF (c : Nat) (F : FF) (n : Nat) (dds : List D) : FF := fun l st => mkG c (fun x => cF F n dds (x :: l)) st
end
end Sh
/-! Part G: objects made, errors raised and caught, defs. -/
namespace Sh
open PySem L2
section
variable {X : Cx} {W : We} {e o a b c : Expr} {es : List Expr} {f fo fa fb : EF} {g : AF} {pos p apos pos' p2 pos2 : Pos} {x m : Str} {gs hs : SF} {st : Stmt} {rest body : List Stmt}
variable {k n : Nat} {fn C : Addr} {fd : FuncData} {ps : List Str} {F : FF} {dvs : List V} {ds : List Value} {dds : List D}
/-- C(..) at values: what __init__ leaves -/
theorem run_makeS {ci : Nat} {pins : List (Addr × Obj)} {σ : St} {s : Shared} {w : Hw} {stt : Sto} {l : List D} {vs : List V} {us : List Value} {Q : VK} (hc : X.mg (cName ci) = some (.ref C)) (M : Mk X.K C fn) (hF : FnOk X.prog X.w X.K X.mg X.base (L2.CX X.prog X.w) k fn fd ps (spF X.K X.mg n F)) (hr : Room (k + 1) X.A) (tk : Takes X W.w) (hb : Binds X.K fd ps ds) (hd : Dfl X.K X.mg ds dvs dds)
    (I : Inv X pins σ w.h s) (r : Vals vs us) (rm : Rel X.K X.mg w stt) (q : Reps X.K X.mg w.r w.g l vs)
    (h : ∀ x dx, w.h x = none → w.h dx = none → dx ≠ x → Post X.K X.mg W.w ⟨w.r ++ [x], w.g, upd (upd w.h dx (.own x)) x (.ins C dx [])⟩ σ (RD X.K X.mg) (fun v H2 => v = .non ∧ Q (.ref x) H2) (cF F n dds (.loc stt.length :: l) (stt ++ [.ins ci []]))) :
    wpAny (model X.prog X.w) X.A (call (.ref C) us) (EP X pins σ Q) X.xe s := by
  have n1 : w.h (s.heap.objs.size + 1) = none := I.hok.fresh (Nat.le_succ _)
  have n2 : w.h s.heap.objs.size = none := I.hok.fresh (Nat.le_refl _)
  have n3 : s.heap.objs.size ≠ s.heap.objs.size + 1 := Nat.ne_of_lt (Nat.lt_succ_self _)
  have hq := h _ _ n1 n2 n3
  have I2 := Inv.made (C := C) I
  have r0 := rm.side (o := .own (s.heap.objs.size + 1)) (rm.fresh n2) (rm.gnone n2)
  have n4 : (w.put s.heap.objs.size (.own (s.heap.objs.size + 1))).h (s.heap.objs.size + 1) = none := by
    show upd w.h _ _ _ = none
    rw [upd_ne (Ne.symm n3)]; exact n1
  have r1 := r0.new (o := .ins C s.heap.objs.size []) (so := .ins ci []) n4 ⟨C, _, [], hc, upd_same, by simp, .nil⟩
  have e1 : ∀ (i : Nat) (a : Addr), w.r[i]? = some a → (w.r ++ [s.heap.objs.size + 1])[i]? = some a := fun i a z => by
    rw [List.getElem?_append_left (List.getElem?_eq_some_iff.mp z).1]; exact z
  unfold cF at hq
  split at hq
  · rename_i hl
    have hsp : spF X.K X.mg n F (V.ref (s.heap.objs.size + 1) :: (vs ++ dvs)) (upd (upd w.h s.heap.objs.size (.own (s.heap.objs.size + 1))) (s.heap.objs.size + 1) (.ins C s.heap.objs.size [])) (fun v H2 => v = .non ∧ Q (.ref (s.heap.objs.size + 1)) H2) (WE W.w σ) :=
      ⟨⟨w.r ++ [s.heap.objs.size + 1], w.g, upd (upd w.h s.heap.objs.size (.own (s.heap.objs.size + 1))) (s.heap.objs.size + 1) (.ins C s.heap.objs.size [])⟩, .loc stt.length :: (l ++ dds), stt ++ [SO.ins ci []], rfl, r1, .cons (.loc (by
        show (w.r ++ [s.heap.objs.size + 1])[stt.length]? = _
        rw [← rm.len, List.getElem?_append_right (Nat.le_refl _)]
        simp)) ((Reps.mono' e1 (fun _ _ z => z) _ _ q).append (hd.r _ _)), by simpa using hl, hq.conv⟩
    have rr : Vals (V.ref (s.heap.objs.size + 1) :: (vs ++ dvs)) (Value.ref (s.heap.objs.size + 1) :: (us ++ ds)) := .cons rfl (r.append hd.v)
    have hlen : (Value.ref (s.heap.objs.size + 1) :: us ++ ds).length = ps.length := by
      have z := rr.length
      rw [hF.len _ _ _ _ hsp] at z
      exact z.symm
    have here := hF.run _ X.stack _ _ ⟨Value.ref (s.heap.objs.size + 1) :: us, []⟩ (Value.ref (s.heap.objs.size + 1) :: (us ++ ds)) _ _ (WE W.w σ) (hr.make C us []) (I2.env0.make C us []) (hb _ (Value.ref (s.heap.objs.size + 1) :: us) I2.kIn hlen) rr hsp
    refine wpAny_call (make_map (f := fn) I.kIn M.makes M.init (beq_iff_eq.mp M.fn) (codeAny_mono here fun res s' hz => ?_))
    match res, hz with
    | .error er, hz => exact passAt tk σ pins _ _ er s' I2 hz
    | .ok (.ret u), hz =>
      obtain ⟨v, H', I3, rv, ev, q3⟩ := I2.after hz
      subst ev
      exact ⟨rv, ⟨V.ref (s.heap.objs.size + 1), H', I3, rfl, q3⟩⟩
    | .ok .next, hz => exact False.elim hz
    | .ok .brk, hz => exact False.elim hz
    | .ok .cont, hz => exact False.elim hz
  · exact False.elim hq
/-- from the meaning of a made object that is only read -/
theorem mkG_post {ci : Nat} {σ : St} {w : Hw} {stt : Sto} {Fk : D → Sto → Res D} {Q : VK} (hc : X.mg (cName ci) = some (.ref C)) (rm : Rel X.K X.mg w stt) (hp : Post X.K X.mg W.w w σ (RD X.K X.mg) Q (mkG ci Fk stt)) :
    ∀ x dx, w.h x = none → w.h dx = none → dx ≠ x → Post X.K X.mg W.w ⟨w.r ++ [x], w.g, upd (upd w.h dx (.own x)) x (.ins C dx [])⟩ σ (RD X.K X.mg) (fun v H2 => v = .non ∧ Q (.ref x) H2) (Fk (.loc stt.length) (stt ++ [.ins ci []])) := by
  intro x dx hx hdx hne
  have e0 : Ext w ⟨w.r ++ [x], w.g, upd (upd w.h dx (.own x)) x (.ins C dx [])⟩ := by
    refine ⟨⟨[x], rfl⟩, fun _ _ z => z, fun a u q n => ⟨?_, ?_, fun z => z⟩⟩
    · show upd (upd w.h dx (.own x)) x (.ins C dx []) a = some u
      rw [upd_ne (ne_of_none q hx), upd_ne (ne_of_none q hdx)]; exact q
    · have : a ≠ x := ne_of_none q hx
      show a ∉ w.r ++ [x]
      simp [n, this]
  have hxr : x ∉ w.r := rm.fresh hx
  unfold mkG at hp
  split at hp
  · rename_i st2 hq
    rw [hq]
    split at hp
    · rename_i hst
      split at hp
      · rename_i c' l' hl'
        split at hp
        · rename_i hcl
          intro m' v e1 r1 q1
          cases q1
          refine ⟨rfl, ?_⟩
          have hat : m'.r[stt.length]? = some x := e1.at_ (by
            show (w.r ++ [x])[stt.length]? = _
            rw [← rm.len, List.getElem?_append_right (Nat.le_refl _)]
            simp)
          have hxm : x ∈ m'.r := List.mem_of_getElem? hat
          obtain ⟨rfl, hpu⟩ := hcl
          obtain ⟨C', dx', fs, k1, k2, k3, k4⟩ := r1.obj _ _ _ hat hl'
          have e2 := e0.trans e1
          have gx := r1.off x hxm
          have hg : ∀ a u, m'.g a = some u → upd m'.g x (.ins C' dx' fs) a = some u := fun a u z => by
            rw [upd_ne (ne_of_none z gx)]; exact z
          refine hp ⟨w.r, upd m'.g x (.ins C' dx' fs), m'.h⟩ (.ref x) ?_ (rm.cut r1 e2 hst.1 _ (fun a u z => ?_) (fun a z => ?_) hg) (.ins k1 upd_same k3 (reps_pu _ _ hpu (Reps.mono' (fun _ _ z => z) hg _ _ k4)))
          · refine ⟨⟨[], by simp⟩, fun a u z => hg a u (e2.g a u z), fun a u q n => ?_⟩
            obtain ⟨j1, j2, j3⟩ := e2.fr a u q n
            refine ⟨j1, n, fun z => ?_⟩
            show upd m'.g x _ a = none
            rw [upd_ne (ne_of_none q hx)]; exact j3 z
          · by_cases z' : a = x
            · subst z'; rw [upd_same] at z; cases z; exact k2
            · rw [upd_ne z'] at z; exact r1.sub a u z
          · have : a ≠ x := fun z' => hxr (z' ▸ z)
            rw [upd_ne this]
            obtain ⟨t, ht⟩ := e2.pre
            exact r1.off a (by rw [ht]; exact List.mem_append_left _ z)
        · exact False.elim hp
      · exact False.elim hp
    · exact False.elim hp
  · rename_i xc o st2 hq
    rw [hq]
    split at hp
    · rename_i hst
      obtain ⟨hst, hpu⟩ := hst
      intro m' cls dx' e1 r1 q1
      have e2 := e0.trans e1
      refine hp ⟨w.r, m'.g, m'.h⟩ cls dx' ⟨⟨[], by simp⟩, e2.g, fun a u q n => let ⟨j1, _, j3⟩ := e2.fr a u q n; ⟨j1, n, j3⟩⟩ (rm.cut r1 e2 hst _ r1.sub (fun a z => ?_) fun _ _ z => z) ?_
      · obtain ⟨t, ht⟩ := e2.pre
        exact r1.off a (by rw [ht]; exact List.mem_append_left _ z)
      · obtain ⟨C, x1, x2, x3⟩ := q1
        refine ⟨C, x1, x2, ?_⟩
        cases o with
        | none => exact x3
        | some d =>
          obtain ⟨a, v, y1, y2, y3⟩ := x3
          exact ⟨a, v, y1, y2, rep_pu d v (hpu d rfl) y3⟩
    · exact False.elim hp
  · exact False.elim hp
theorem mkF_post {ci : Nat} {σ : St} {w : Hw} {stt : Sto} {l : List D} {Q : VK} (hc : X.mg (cName ci) = some (.ref C)) (rm : Rel X.K X.mg w stt) (hp : Post X.K X.mg W.w w σ (RD X.K X.mg) Q (mkF ci F n dds l stt)) :
    ∀ x dx, w.h x = none → w.h dx = none → dx ≠ x → Post X.K X.mg W.w ⟨w.r ++ [x], w.g, upd (upd w.h dx (.own x)) x (.ins C dx [])⟩ σ (RD X.K X.mg) (fun v H2 => v = .non ∧ Q (.ref x) H2) (cF F n dds (.loc stt.length :: l) (stt ++ [.ins ci []])) := mkG_post (Fk := fun x => cF F n dds (x :: l)) hc rm hp
theorem se_make {ci : Nat} (hc : X.mg (cName ci) = some (.ref C)) (M : Mk X.K C fn) (hF : FnOk X.prog X.w X.K X.mg X.base (L2.CX X.prog X.w) k fn fd ps (spF X.K X.mg n F)) (hr : Room (k + 1) X.A) (tk : Takes X W.w) (hg : Gl X x) (hm : X.mg x = some (.ref C)) (hb : Binds X.K fd ps ds) (hd : Dfl X.K X.mg ds dvs dds)
    (ha : SA X W (e :: es) g) (hdb : (x == ("__debug__" : Str)) = false := by decide) (he : starEach (e :: es) X.env = (false, eval e X.env) :: starEach es X.env := by rfl) (hpl : (backTo pos (starEach es X.env)).any (·.1) = false := by rfl) :
    SE X W (.Call (.Name x p) (e :: es) [] pos) (fCall (mkF ci F n dds) g) := by
  refine ⟨fun pins s σ H Q I h => ?_⟩
  obtain ⟨w, sg, st, rfl, rm, rs, hp⟩ := h
  refine wpAny_Call_Name_kw (ld_glob I hg hm ?_ hdb)
  refine PySem.W.callWith_K (h₀ := X.base) I.ok.mod.kin M.kp (thn (ha.run pos pins s σ w.h (fun vs H2 => ∃ m2 l st2, m2.h = H2 ∧ Rel X.K X.mg m2 st2 ∧ Reps X.K X.mg m2.r m2.g l vs ∧ Post X.K X.mg W.w m2 σ (RD X.K X.mg) Q (mkF ci F n dds l st2)) I
    ⟨w, sg, st, rfl, rm, rs, hp.bindc fun m2 l vs st2 e2 r2 q2 hp2 => ⟨m2, l, st2, rfl, r2, q2, hp2⟩⟩) fun us s1 hz => ?_) he hpl
  obtain ⟨vs, H2, I2, rv2, m2, l, st2, rfl, r2, q2, hp2⟩ := hz
  exact ⟨I2.kIn, run_makeS hc M hF hr tk hb hd I2 rv2 r2 q2 (mkF_post hc r2 hp2)⟩
theorem se_make0 {ci : Nat} (hc : X.mg (cName ci) = some (.ref C)) (M : Mk X.K C fn) (hF : FnOk X.prog X.w X.K X.mg X.base (L2.CX X.prog X.w) k fn fd ps (spF X.K X.mg n F)) (hr : Room (k + 1) X.A) (tk : Takes X W.w) (hg : Gl X x) (hm : X.mg x = some (.ref C)) (hb : Binds X.K fd ps ds) (hd : Dfl X.K X.mg ds dvs dds)
    (hdb : (x == ("__debug__" : Str)) = false := by decide) : SE X W (.Call (.Name x p) [] [] pos) (fCall (mkF ci F n dds) aNil) := by
  refine ⟨fun pins s σ H Q I h => ?_⟩
  obtain ⟨w, sg, st, rfl, rm, rs, hp⟩ := h
  refine wpAny_Call_Name_kw (ld_glob I hg hm ?_ hdb)
  exact PySem.W.callWith_K0 I.kIn M.kp (run_makeS (us := []) hc M hF hr tk hb hd I .nil rm .nil (mkF_post hc rm hp))
/-- self.f = e -/
def stFld (c i : Nat) (x d : D) (st : Sto) : Option Sto := match x with
  | .loc n => match st[n]? with
    | some (.ins c' l) => if c' = c ∧ i ≤ l.length then some (st.set n (.ins c (if i < l.length then l.set i d else l ++ [d]))) else none
    | _ => none
  | _ => none
def rFldS (c i : Nat) (fo f : EF) : Sg → Sto → Res Unit := fun sg st => (f sg st).bind fun d st1 => (fo sg st1).bind fun x st2 => match stFld c i x d st2 with
  | some st3 => .ok () st3
  | none => .bad
@[simp] def sFldS (c i : Nat) (fo f : EF) : SF := fun sg st => (rFldS c i fo f sg st).flw sg fun _ st4 => .nx sg st4
theorem putF_old {f : Str} {y : V} : ∀ {fs : List (Str × V)} {ns : List Str} {i : Nat}, fs.map (·.1) = ns → ns.Nodup → ns[i]? = some f → (putF f y fs).map (·.1) = ns ∧ (putF f y fs).map (·.2) = (fs.map (·.2)).set i y
  | [], ns, i, h, _, e => by simp at h; subst h; simp at e
  | (f', v') :: fs, ns, i, h, nd, e => by
    simp at h
    subst h
    unfold putF
    cases i with
    | zero =>
      simp at e
      subst e
      simp
    | succ i =>
      have hne : ¬ f' = f := fun z => by
        subst z
        exact (List.nodup_cons.mp nd).1 (List.mem_of_getElem? (i := i) (by simpa using e))
      obtain ⟨h1, h2⟩ := putF_old (y := y) (fs := fs) (i := i) rfl (List.nodup_cons.mp nd).2 (by simpa using e)
      rw [if_neg hne]
      constructor
      · simp [h1]
      · simp [h2]
theorem putF_new {f : Str} {y : V} : ∀ {fs : List (Str × V)}, f ∉ fs.map (·.1) → putF f y fs = fs ++ [(f, y)]
  | [], _ => rfl
  | (f', v') :: fs, h => by
    have hne : ¬ f' = f := fun z => h (by simp [z])
    unfold putF
    rw [if_neg hne, putF_new (fs := fs) fun z => h (by simp at z ⊢; exact .inr z)]
    rfl
theorem ss_fld {ci i : Nat} (hc : X.mg (cName ci) = some (.ref C)) (cl : Cls X.K C) (na : NoAttr X.K C m) (hf : (cFlds ci)[i]? = some m) (hnd : (cFlds ci).Nodup) (hlen : (cFlds ci).length < 1000) (ho : SE X W o fo) (he : SE X W e f) (hs : swapsWith e (some (.Attribute o m pos')) pos.line X.env = pure false := by rfl) :
    SS X W (.Assign [.Attribute o m pos'] e pos) (sFldS ci i fo f) :=
  ps_weak (ps_fld ho he hs) fun D σ H ⟨w, sg, st, e, rm, rs, hp⟩ => ⟨w, sg, st, e, rm, rs, by
    have hp' := flwc (r := rFldS ci i fo f sg st) (R := fun _ _ _ => True) (β := Unit) (Q := fun _ H3 => D.nx σ H3) hp rs fun m1 y v st1 e1 r1 q1 hp1 => hp1 m1 _ (Ext.refl _) r1 (rs.mono e1)
    unfold rFldS at hp'
    refine hp'.bindc fun m1 d v st1 e1 r1 q1 hp1 => ⟨m1, sg, st1, rfl, r1, rs.mono e1, hp1.bindc fun m2 x u st2 e2 r2 q2 hp2 => ?_⟩
    split at hp2
    · rename_i st3 hst
      unfold stFld at hst
      split at hst
      · split at hst
        · rename_i c' l hl
          split at hst
          · rename_i hcc
            cases hst
            obtain ⟨rfl, hi⟩ := hcc
            cases q2 with
            | loc hr =>
              obtain ⟨C', dx, fs, k1, k2, k3, k4⟩ := r2.obj _ _ _ hr hl
              rw [hc] at k1
              cases k1
              have hlf : fs.length = l.length := by have := k4.length; simpa using this.symm
              have hll : l.length ≤ (cFlds c').length := by
                have z := congrArg List.length k3
                simp at z
                omega
              refine ⟨_, C, dx, fs, rfl, k2, cl, na, by omega, ?_⟩
              refine hp2 (m2.put _ (.ins C dx (putF m v fs))) () (Ext.put (List.mem_of_getElem? hr)) (r2.put hr ?_) trivial
              split
              · rename_i hlt
                obtain ⟨z1, z2⟩ := putF_old (y := v) k3 (hnd.sublist (List.take_sublist _ _)) (take_at hf hlt)
                exact ⟨C, dx, _, hc, upd_same, by rw [z1]; simp, by rw [z2]; exact k4.set (q1.mono e2) i⟩
              · rename_i hge
                have hil : i = l.length := by omega
                subst hil
                have hnot : m ∉ fs.map (·.1) := fun z => by
                  rw [k3] at z
                  obtain ⟨j, hj, hm⟩ := List.mem_iff_getElem.mp z
                  rw [List.getElem_take] at hm
                  have hj' : j < l.length := by have := hj; simp at this; omega
                  have := nodup_ix hnd (i := j) (j := l.length) (x := m) (by rw [List.getElem?_eq_getElem (by omega), hm]) hf
                  omega
                refine ⟨C, dx, _, hc, upd_same, ?_, ?_⟩
                · rw [putF_new hnot, List.map_append, k3, List.length_append]
                  show _ ++ [m] = _
                  have hlt : l.length < (cFlds c').length := (List.getElem?_eq_some_iff.mp hf).1
                  have hm : (cFlds c')[l.length] = m := (List.getElem?_eq_some_iff.mp hf).2
                  rw [show l.length + [d].length = l.length + 1 from rfl, List.take_succ_eq_append_getElem hlt, hm]
                · rw [putF_new hnot, List.map_append]
                  exact k4.append (.one (q1.mono e2))
          · cases hst
        · cases hst
      · cases hst
    · exact False.elim hp2⟩
/-! errors -/
structure XOwn (X : Cx) (c : Nat) (C : Addr) : Prop where
  g : X.mg (xName c) = some (.ref C)
  q : PySem.W.excIn X.K C [.type "ValueError", .type "Exception", .type "BaseException", .type "object"] "ValueError.__new__" = true
  k : PySem.W.keepIn X.K (.ref C) = true
  r : Raises X (.ref C)
theorem ss_raise {ci j : Nat} {msg : Str} (xo : XOwn X ci C) (hx : xName ci = x) (hc : X.calm = true) (tk : Takes X W.w) (hg : Gl X x) (hdb : (x == ("__debug__" : Str)) = false := by decide) : SS X W (.Raise (some (.Call (.Name x p) [.Constant (.str msg) j p2] [] pos)) none pos2) (fun sg st => .exc ci none sg st) := by
  subst hx
  exact ps_weak (ps_raise hc tk (pmk_own PySem.F.excBase_ValueError xo.q xo.g xo.k xo.r hg hdb)) fun D σ H ⟨w, sg, st, e, rm, rs, hp⟩ => by
    subst e
    exact hp w σ (.ref C) none (Ext.refl _) rm rs ⟨C, xo.g, rfl, rfl⟩
/-! try: body, except x as n: suite -/
@[simp] def Flw.unx (i : Nat) : Flw → Flw
  | .nx sg st => .nx (sg.set i none) st
  | .brk sg st => .brk (sg.set i none) st
  | .cnt sg st => .cnt (sg.set i none) st
  | .ret d st => .ret d st
  | _ => .bad
/-- hc: whether the clause takes an error of that class; c0: the one that it takes -/
def sTryAs (g : SF) (hc : Nat → Option Bool) (c0 : Nat) (fl : Bool) (i : Nat) (su : Option D → SF) : SF := fun sg st => match g sg st with
  | .exc c o sg1 st1 => match hc c with
    | some true => if c = c0 ∧ o.isSome = fl then (su o (sg1.set i none) st1).unx i else .bad
    | some false => .exc c o sg1 st1
    | none => .bad
  | r => r
theorem unx_ok {K : PySem.W.Frag} {mg : Str → Option Value} {w w' : WX} {y : Ex} {m1 : Hw} {D : Ends} {z : Flw} (h : PostS K mg ⟨w, none⟩ m1 D (z.unx y.i)) :
    PostS K mg ⟨w', some y⟩ m1 { nx := fun σ' H' => D.nx (σ'.set y.i none) H', rt := D.rt, bk := fun σ' H' => D.bk (σ'.set y.i none) H', ct := fun σ' H' => D.ct (σ'.set y.i none) H' } z := by
  cases z with
  | nx sg st => exact fun m' σ' e r s => h m' _ e r s.unheld
  | brk sg st => exact fun m' σ' e r s => h m' _ e r s.unheld
  | cnt sg st => exact fun m' σ' e r s => h m' _ e r s.unheld
  | ret d st => exact fun m' v e r s => h m' v e r s
  | exc c o sg st => exact False.elim h
  | bad => exact False.elim h
def WS (y : Ex) : We := ⟨fun _ _ _ _ => False, some y⟩
theorem ss_tryAs {w : WX} {xn n : Str} {cv : Value} {c0 i : Nat} {suite : List Stmt} {b₀ : Stmt} {np : Pos} {hc : Nat → Option Bool} {fl : Bool} {su : Option D → SF} (hs : X.stack = X.env :: X.outer) (hf : X.env.frame = some X.env.locals) (hN : X.N.Nodup) (hi : X.N[i]? = some n) (hln : X.env.kindOf n = some .local) (hnm : Names X xn cv) (tk : Takes X w)
    (hh : ∀ c b C, hc c = some b → X.mg (xName c) = some (.ref C) → PySem.W.exmOne X.K (.ref C) cv = some b)
    (hb : ∀ (W' : WX) (pn : List (Addr × Obj)) (xe : Value → Shared → Prop), Takes (X.tr pn xe) W' → PassesOwn (model X.prog X.w) X.A X.env xe → SSs (X.tr pn xe) ⟨W', none⟩ body gs)
    (hsu : ∀ (a : Addr) (oe : Obj) (C : Addr) (d : Option Addr) (o : Option D) (pn : List (Addr × Obj)), X.mg (xName c0) = some (.ref C) → o.isSome = fl → (o = none → d = none) → Zc (.ref C) d oe → (∃ vs, oe.data = .fields vs) → SSs (X.suite a ((a, oe) :: pn)) (WS ⟨i, a, .ref C, d, c0, o⟩) (b₀ :: suite) (su o)) :
    SS X ⟨w, none⟩ (.Try body [.ExceptHandler (some (.Name xn np)) (some n) (b₀ :: suite) pos'] [] [] pos) (sTryAs gs hc c0 fl i su) :=
  ps_weak (ps_try_as (tb := fun W' => SOf X.K X.mg ⟨W', none⟩ gs) (ts := fun a cls d D σ H => ∃ C o, cls = .ref C ∧ X.mg (xName c0) = some (.ref C) ∧ o.isSome = fl ∧ (o = none → d = none) ∧ SOf X.K X.mg (WS ⟨i, a, cls, d, c0, o⟩) (su o) D σ H) hs hf hN hi hln hnm tk hb
    (fun a oe cls d pn hz hv => ⟨fun pins s σ H D I ⟨C, o, h1, h2, h4, h5, h3⟩ => by
      subst h1
      exact (hsu a oe C d o pn h2 h4 h5 hz hv).run pins s σ H D I h3⟩)) fun D σ H ⟨m, sg, st, e, rm, rs, hp⟩ => ⟨m, sg, st, e, rm, rs, by
    unfold sTryAs at hp
    cases hg : gs sg st with
    | exc c o sg1 st1 =>
      rw [hg] at hp
      intro m' σ' cls dx e' r' s' x'
      have x2 := x'
      obtain ⟨C, k1, k2, k3⟩ := x'
      subst k2
      dsimp only at hp
      cases hq : hc c with
      | none => rw [hq] at hp; exact False.elim hp
      | some b =>
        rw [hq] at hp
        refine ⟨b, hh c b C hq k1, fun hbt a ha => ?_, fun hbf => ?_⟩
        · subst hbt
          dsimp only at hp
          split at hp
          · rename_i hcc
            obtain ⟨hcc, hfl⟩ := hcc
            subst hcc
            refine ⟨C, o, rfl, k1, hfl, (fun z => by subst z; exact k3), m', sg1.set i none, st1, rfl, r', ?_, unx_ok (y := ⟨i, a, .ref C, dx, c, o⟩) (PostS.mono hp e')⟩
            exact SgRep.held (y := ⟨i, a, .ref C, dx, c, o⟩) s' x2
          · exact False.elim hp
        · subst hbf
          exact hp m' σ' (.ref C) dx e' r' s' x2
    | nx sg1 st1 => rw [hg] at hp; exact hp
    | ret d st1 => rw [hg] at hp; exact hp
    | brk sg1 st1 => rw [hg] at hp; exact hp
    | cnt sg1 st1 => rw [hg] at hp; exact hp
    | bad => rw [hg] at hp; exact hp⟩
/-! within a suite: isinstance(e, T) -/
@[simp] def fIsE (i : Nat) (b : Bool) : EF := fun sg st => match sg[i]? with
  | some none => .ok (.bl b) st
  | _ => .bad
theorem se_isE {y : Ex} {oe : Obj} {pn : List (Addr × Obj)} {c : V} {cv : Value} {bb : Bool} {e2 : Expr} {n : Str} {pp : Pos} (hcl : y.cls = .ref C) (hd : y.d = none) (T : ExcC X.K C) (hz : Zc (.ref C) none oe) (hf : ∃ vs, oe.data = .fields vs) (hg : Gl X "isinstance") (hm : X.mg "isinstance" = none)
    (h1 : PE (X.suite y.a ((y.a, oe) :: pn)) (.Name n pp) (tVar y.i)) (h2 : PE (X.suite y.a ((y.a, oe) :: pn)) e2 (tC c)) (hcv : ∀ u, RelV c u → u = cv) (hk : PySem.W.kitOne X.K (.ref C) cv = some bb)
    (he : starEach (.Name n pp :: [e2]) X.env = (false, eval (.Name n pp) X.env) :: starEach [e2] X.env := by rfl) (hpl : (backTo pos (starEach [e2] X.env)).any (·.1) = false := by rfl) (hs : starEach (e2 :: []) X.env = (false, eval e2 X.env) :: starEach [] X.env := by rfl) :
    SE (X.suite y.a ((y.a, oe) :: pn)) (WS y) (.Call (.Name "isinstance" p) [.Name n pp, e2] [] pos) (fIsE y.i bb) :=
  pe_weak (pe_callB (call_isE T hz hf) hg hm (by decide +kernel) (pa_cons h1 (pa_cons h2 pa_nil hs) he) (by decide) (by decide) he hpl) fun σ H Q ⟨m, sg, st, e, rm, rs, hp⟩ => by
    subst e
    unfold fIsE at hp
    split at hp
    · rename_i hsl
      obtain ⟨k1, _⟩ := rs.2.2 y rfl hsl
      exact ⟨_, k1, c, cv, bb, rfl, hcv, hk, hp.okc rm (.bl _)⟩
    · exact False.elim hp
end

/-! defs -/
section
variable {P : Program} {w : World} {K : PySem.W.Frag} {mg : Str → Option Value} {base : Heap}
def fnF (n : Nat) (g : SF) : FF := fun ds st => match g (ds.map some ++ List.replicate (n - ds.length) none) st with
  | .nx _ st1 => .ok .non st1
  | .ret d st1 => .ok d st1
  | .exc c o _ st1 => .exc c o st1
  | _ => .bad
theorem start_rep {m : Hw} {N : List Str} {ds : List D} {vs : List V} (h : Reps K mg m.r m.g ds vs) : SgRep K mg none m (ds.map some ++ List.replicate (N.length - ds.length) none) (L2.start N vs) := by
  have hl := h.length
  refine ⟨by unfold L2.start; simp [hl], fun i d q => ?_, fun _ z _ => nomatch z⟩
  by_cases hi : i < ds.length
  · rw [List.getElem?_append_left (by simpa using hi), List.getElem?_map] at q
    cases hq : ds[i]? with
    | none => rw [hq] at q; cases q
    | some x =>
      rw [hq] at q
      cases q
      obtain ⟨v, h1, h2⟩ := h.get hq
      refine ⟨v, ?_, h2⟩
      unfold L2.start
      rw [List.getElem?_append_left (by simpa [← hl] using hi), List.getElem?_map, h1]
      rfl
  · rw [List.getElem?_append_right (by simpa using Nat.le_of_not_lt hi), List.getElem?_replicate] at q
    split at q <;> cases q
theorem fn_post {n : Nat} {m : Hw} {w : WX} {E : XK} {Q : VK} {ds : List D} {st : Sto} {g : SF} (hw : ∀ c d σ H, E c d H → w c d σ H) (hp : Post K mg (fun c d _ H => E c d H) m [] (RD K mg) Q (fnF n g ds st)) :
    PostS K mg ⟨w, none⟩ m { nx := fun _ H' => Q .non H', rt := Q } (g (ds.map some ++ List.replicate (n - ds.length) none) st) := by
  unfold fnF at hp
  split at hp
  · rename_i h; rw [h]; exact fun m' σ e r s => hp m' .non e r .non
  · rename_i h; rw [h]; exact fun m' v e r s => hp m' v e r s
  · rename_i h; rw [h]; exact fun m' σ cls dx e r s x => hw _ _ _ _ (hp m' cls dx e r x)
  · exact False.elim hp
/-- THE RULE for a def: its body means g, then it promises what g computes -/
theorem fn_ok {x qual : Str} {st : Stmt} {f : Addr} {fd : FuncData} {N ps : List Str} {k : Nat} {g : SF} (F : Fun K x qual st f fd) (S : FnScope N ps (defScope st))
    (hb : ∀ (cdv : Value) (A : Around) (outer : List Env) (s : Shared) (H : Hp) (E : XK), Room k (A.deeper (PyProof.Rows.envOfC qual (defScope st) s.heap.objs.size f cdv)) →
      SSs (cxOf (L2.CX P w) P w K mg base N qual (defScope st) f cdv A outer s H E) ⟨fun cls d _ H => E cls d H, none⟩ (defBody st) g) : FnOk P w K mg base (L2.CX P w) (k + 1) f fd ps (spF K mg ps.length (fnF N.length g)) := by
  refine F.okX S (fun vs H Q E h => ?_) (fun cdv A outer s H vs Q E hr h => ⟨_, hb cdv A outer s H E hr, ?_⟩)
  · obtain ⟨m, ds, st, _, _, h3, h4, _⟩ := h
    rw [← h3.length]; exact h4
  · obtain ⟨m, ds, st, h1, h2, h3, h4, h5⟩ := h
    exact ⟨m, _, st, h1, h2, start_rep h3, fn_post (fun _ _ _ _ z => z) h5⟩
/-- a def whose parameters have defaults -/
theorem fn_okD {x qual : Str} {st : Stmt} {f : Addr} {fd : FuncData} {N ps : List Str} {k : Nat} {g : SF} {dvs : List V} (F : FunD K x qual (defArgs st) (defBody st) (defScope st) dvs [] f fd) (S : FnScope N ps (defScope st))
    (hb : ∀ (cdv : Value) (A : Around) (outer : List Env) (s : Shared) (H : Hp) (E : XK), Room k (A.deeper (PyProof.Rows.envOfC qual (defScope st) s.heap.objs.size f cdv)) →
      SSs (cxOf (L2.CX P w) P w K mg base N qual (defScope st) f cdv A outer s H E) ⟨fun cls d _ H => E cls d H, none⟩ (defBody st) g) : FnOk P w K mg base (L2.CX P w) (k + 1) f fd ps (spF K mg ps.length (fnF N.length g)) := by
  refine F.ok S (fun vs H Q E h => ?_) (fun cdv A outer s H vs Q E hr h => ⟨_, hb cdv A outer s H E hr, ?_⟩)
  · obtain ⟨m, ds, st, _, _, h3, h4, _⟩ := h
    rw [← h3.length]; exact h4
  · obtain ⟨m, ds, st, h1, h2, h3, h4, h5⟩ := h
    exact ⟨m, _, st, h1, h2, start_rep h3, fn_post (fun _ _ _ _ z => z) h5⟩
/-- the law's promise, from what it computes -/
theorem law_ok {fa : Addr} {fd : FuncData} {k : Nat} {ps : List Str} {F : FF} (h : FnOk P w K mg base (L2.CX P w) k fa fd ps (spF K mg 1 F)) (ht : ∀ l : List Int, l.length ≤ 63 → ∃ st, F [.scr l] [] = .ok (.bl true) st) :
    FnOk P w K mg base (L2.CX P w) k fa fd ps (fun vs H Q _ => ∃ (a : Addr) (ns : List Int), vs = [.ref a] ∧ SqL K H a (ns.map V.int) ∧ ns.length ≤ 63 ∧ ∀ H', Q (.bl true) H') := by
  refine h.imp fun vs H Q E ⟨a, ns, h1, h2, h3, h4⟩ => ?_
  subst h1
  obtain ⟨st, hst⟩ := ht ns h3
  refine ⟨⟨[], fun b => if b = a then H a else none, H⟩, [.scr ns], [], rfl, ⟨fun b o e => ?_, rfl, List.nodup_nil, fun _ z => by simp at z, fun n b so e => by simp at e⟩, .one (.scr ?_), rfl, ?_⟩
  · have e : (if b = a then H a else none) = some o := e
    split at e
    · rename_i q; rw [q]; exact e
    · cases e
  · rcases h2 with (h | ⟨o, h⟩) | h
    · exact .inl (.inl (by show (if a = a then H a else none) = _; rw [if_pos rfl]; exact h))
    · exact .inl (.inr ⟨o, by show (if a = a then H a else none) = _; rw [if_pos rfl]; exact h⟩)
    · exact .inr h
  · rw [hst]
    intro m' v e r q
    cases q
    exact h4 m'.h
end
end Sh
/-! Part H: defs as they stand behind the top, by names; the head's facts; the end. -/
namespace Sh
open PySem L2 He
theorem _root_.L2.FunD.lk {K : PySem.W.Frag} {x qual : Str} {params : Arguments} {body : List Stmt} {scope : Scope} {dvs : List V} {kws : List (Str × V)} {f : Addr} {fd : FuncData} (F : FunD K x qual params body scope dvs kws f fd) : ∃ oc od osl, K.lookup f = some ⟨oc, od, .func fd, osl⟩ := by
  obtain ⟨oc, od, dV, kV, doc, pm, an, cdv, ct, osl, _, lk, _⟩ := F.ex
  exact ⟨oc, od, osl, lk⟩
/-- a def that keeps its promise, with its defaults -/
structure DefOk (P : Program) (w : World) (K : PySem.W.Frag) (mg : Str → Option Value) (base : Heap) (k : Nat) (f : Addr) (ps : List Str) (dvs : List V) (F : FF) : Prop where
  ex : ∃ fd, FnOk P w K mg base (L2.CX P w) k f fd ps (spF K mg ps.length F) ∧ (∀ j, j ≤ dvs.length → ∃ ds, Vals (dvs.drop j) ds ∧ Binds K fd ps ds) ∧ ∃ oc od osl, K.lookup f = some ⟨oc, od, .func fd, osl⟩
  kp : PySem.W.keepIn K (.ref f) = true
section
variable {X : Cx} {W : We} {e o : Expr} {es : List Expr} {fo : EF} {g : AF} {pos p apos : Pos} {x m : Str} {k : Nat} {fa C : Addr} {ps : List Str} {dvs : List V} {dds : List D} {F : FF} {j : Nat}
theorem se_callD (h : DefOk X.prog X.w X.K X.mg X.base k fa ps dvs F) (j : Nat) (hj : j ≤ dvs.length) (hd : ∀ r G, Reps X.K X.mg r G dds (dvs.drop j)) (hr : Room k X.A) (tk : Takes X W.w) (hg : Gl X x) (hm : X.mg x = some (.ref fa))
    (ha : SA X W (e :: es) g) (hdb : (x == ("__debug__" : Str)) = false := by decide) (he : starEach (e :: es) X.env = (false, eval e X.env) :: starEach es X.env := by rfl) (hpl : (backTo pos (starEach es X.env)).any (·.1) = false := by rfl) :
    SE X W (.Call (.Name x p) (e :: es) [] pos) (fCall (cF F ps.length dds) g) := by
  obtain ⟨⟨fd, h1, h2, _⟩, h3⟩ := h
  obtain ⟨ds, v, b⟩ := h2 j hj
  exact se_call h1 hr tk hg hm h3 b ⟨v, hd⟩ ha hdb he hpl
theorem se_call0D (h : DefOk X.prog X.w X.K X.mg X.base k fa ps dvs F) (j : Nat) (hj : j ≤ dvs.length) (hd : ∀ r G, Reps X.K X.mg r G dds (dvs.drop j)) (hr : Room k X.A) (tk : Takes X W.w) (hg : Gl X x) (hm : X.mg x = some (.ref fa))
    (hdb : (x == ("__debug__" : Str)) = false := by decide) : SE X W (.Call (.Name x p) [] [] pos) (fun _ st => cF F ps.length dds [] st) := by
  obtain ⟨⟨fd, h1, h2, _⟩, h3⟩ := h
  obtain ⟨ds, v, b⟩ := h2 j hj
  exact se_call0 h1 hr tk hg hm h3 b ⟨v, hd⟩ hdb
theorem se_methD {c : Nat} {pl : Sem Bool} (h : DefOk X.prog X.w X.K X.mg X.base k fa ps dvs F) (j : Nat) (hj : j ≤ dvs.length) (hd : ∀ r G, Reps X.K X.mg r G dds (dvs.drop j)) (hr : Room k X.A) (tk : Takes X W.w) (hc : X.mg (cName c) = some (.ref C)) (cl : Cls X.K C) (hme : Meth X.K C m fa) (hnf : m ∉ cFlds c)
    (ho : SE X W o fo) (ha : SA X W (e :: es) g) (hst : starEach (e :: es) X.env = (false, eval e X.env) :: starEach es X.env := by rfl) (hpl : (backTo pos (starEach es X.env)).any (·.1) = false := by rfl)
    (ht : eval (.Call (.Attribute o m apos) (e :: es) [] pos) X.env = (do let ov ← eval o X.env; standAt apos.atName; let (f, first) ← holding [ov] (getMethod ov m pl); callWith pos f first (backTo pos (starEach (e :: es) X.env)) (backToKw pos (keywordEach [] X.env))) := by rfl) :
    SE X W (.Call (.Attribute o m apos) (e :: es) [] pos) (fMeth c F ps.length dds fo g) := by
  obtain ⟨⟨fd, h1, h2, _⟩, h3⟩ := h
  obtain ⟨ds, v, b⟩ := h2 j hj
  exact se_meth (pl := pl) h1 hr tk hc cl hme hnf b ⟨v, hd⟩ ho ha hst hpl ht
theorem se_meth0D {c : Nat} {pl : Sem Bool} (h : DefOk X.prog X.w X.K X.mg X.base k fa ps dvs F) (j : Nat) (hj : j ≤ dvs.length) (hd : ∀ r G, Reps X.K X.mg r G dds (dvs.drop j)) (hr : Room k X.A) (tk : Takes X W.w) (hc : X.mg (cName c) = some (.ref C)) (cl : Cls X.K C) (hme : Meth X.K C m fa) (hnf : m ∉ cFlds c)
    (ho : SE X W o fo)
    (ht : eval (.Call (.Attribute o m apos) [] [] pos) X.env = (do let ov ← eval o X.env; standAt apos.atName; let (f, first) ← holding [ov] (getMethod ov m pl); callWith pos f first (backTo pos (starEach [] X.env)) (backToKw pos (keywordEach [] X.env))) := by rfl) :
    SE X W (.Call (.Attribute o m apos) [] [] pos) (fMeth c F ps.length dds fo aNil) := by
  obtain ⟨⟨fd, h1, h2, _⟩, h3⟩ := h
  obtain ⟨ds, v, b⟩ := h2 j hj
  exact se_meth0 (pl := pl) h1 hr tk hc cl hme hnf b ⟨v, hd⟩ ho ht
theorem se_makeD {ci : Nat} (h : DefOk X.prog X.w X.K X.mg X.base k fa ps dvs F) (j : Nat) (hj : j ≤ dvs.length) (hd : ∀ r G, Reps X.K X.mg r G dds (dvs.drop j)) (hr : Room (k + 1) X.A) (tk : Takes X W.w) (hc : X.mg (cName ci) = some (.ref C)) (M : Mk X.K C fa) (hg : Gl X x) (hm : X.mg x = some (.ref C))
    (ha : SA X W (e :: es) g) (hdb : (x == ("__debug__" : Str)) = false := by decide) (he : starEach (e :: es) X.env = (false, eval e X.env) :: starEach es X.env := by rfl) (hpl : (backTo pos (starEach es X.env)).any (·.1) = false := by rfl) :
    SE X W (.Call (.Name x p) (e :: es) [] pos) (fCall (mkF ci F ps.length dds) g) := by
  obtain ⟨⟨fd, h1, h2, _⟩, h3⟩ := h
  obtain ⟨ds, v, b⟩ := h2 j hj
  exact se_make hc M h1 hr tk hg hm b ⟨v, hd⟩ ha hdb he hpl
theorem se_make0D {ci : Nat} (h : DefOk X.prog X.w X.K X.mg X.base k fa ps dvs F) (j : Nat) (hj : j ≤ dvs.length) (hd : ∀ r G, Reps X.K X.mg r G dds (dvs.drop j)) (hr : Room (k + 1) X.A) (tk : Takes X W.w) (hc : X.mg (cName ci) = some (.ref C)) (M : Mk X.K C fa) (hg : Gl X x) (hm : X.mg x = some (.ref C))
    (hdb : (x == ("__debug__" : Str)) = false := by decide) : SE X W (.Call (.Name x p) [] [] pos) (fCall (mkF ci F ps.length dds) aNil) := by
  obtain ⟨⟨fd, h1, h2, _⟩, h3⟩ := h
  obtain ⟨ds, v, b⟩ := h2 j hj
  exact se_make0 hc M h1 hr tk hg hm b ⟨v, hd⟩ hdb
end
/-! a def without defaults; with some -/
section
variable {P : Program} {w : World} {K : PySem.W.Frag} {mg : Str → Option Value} {base : Heap} {x qual : Str} {st : Stmt} {f : Addr} {N ps : List Str} {k : Nat} {g : SF} {dvs : List V}
abbrev BodyOk (P : Program) (w : World) (K : PySem.W.Frag) (mg : Str → Option Value) (base : Heap) (N : List Str) (qual : Str) (st : Stmt) (f : Addr) (k : Nat) (g : SF) : Prop :=
  ∀ (cdv : Value) (A : Around) (outer : List Env) (s : Shared) (H : Hp) (E : XK), Room k (A.deeper (PyProof.Rows.envOfC qual (defScope st) s.heap.objs.size f cdv)) →
      SSs (cxOf (L2.CX P w) P w K mg base N qual (defScope st) f cdv A outer s H E) ⟨fun cls d _ H => E cls d H, none⟩ (defBody st) g
theorem def_ok (F : ∃ fd, FunD K x qual (defArgs st) (defBody st) (defScope st) [] [] f fd) (S : FnScope N ps (defScope st))
    (hb : ∀ (kV doc pm : Value) (an : Option Addr) (cdv ct : Value) (us : List Value), us.length = ps.length → bindArgs (PySem.W.fnOf x qual (defArgs st) (defBody st) (defScope st) .none kV doc pm an cdv ct) ⟨us, []⟩ = pure (ps.zip us))
    (h : BodyOk P w K mg base N qual st f k g) : DefOk P w K mg base (k + 1) f ps [] (fnF N.length g) := by
  obtain ⟨fd, F⟩ := F
  refine ⟨⟨fd, fn_okD F S h, fun j hj => ⟨[], ?_, FunD.bindsN F hb⟩, F.lk⟩, F.kp⟩
  simp
  exact .nil
theorem def_okD (F : ∃ fd, FunD K x qual (defArgs st) (defBody st) (defScope st) dvs [] f fd) (S : FnScope N ps (defScope st)) (hd : dvs ≠ []) (hl : dvs.length ≤ ps.length)
    (hb : ∀ j, j ≤ dvs.length → ∀ (T : Addr) (kV doc pm : Value) (an : Option Addr) (cdv ct : Value) (us its : List Value), us.length = ps.length - (dvs.length - j) → its.length = dvs.length →
      ∃ k, bindArgs (PySem.W.fnOf x qual (defArgs st) (defBody st) (defScope st) (.ref T) kV doc pm an cdv ct) ⟨us, []⟩ = seqItems? (.ref T) >>= k ∧ k (some its.toArray) = pure (ps.zip (us ++ its.drop j)))
    (h : BodyOk P w K mg base N qual st f k g) : DefOk P w K mg base (k + 1) f ps dvs (fnF N.length g) := by
  obtain ⟨fd, F⟩ := F
  exact ⟨⟨fd, fn_okD F S h, fun j hj => FunD.binds1 F (ps.length - (dvs.length - j)) j hd (by omega) (hb j hj), F.lk⟩, F.kp⟩
end
/-! the head's facts: any truth values of the written part -/
abbrev AlS : Type := Bool × List FnW
def obsS (fx : List (PySem.W.Frag → Bool)) (fn : List DefD) (K : PySem.W.Frag) : AlS := ((fx.all fun f => f K) && fn.all fun d => d.ok K, fn.map fun d => fnW K d.at_)
def valS (fn : List DefD) : AlS := (true, fn.map DefD.val)
def obsSG (n : Nat) (fx : List (PySem.W.Frag → Bool)) (fn : List DefD) (g : Addr → Option Obj) : AlS := obsS fx fn (frG g (asD g n))
def hookS (n : Nat) (fx : List (PySem.W.Frag → Bool)) (fn : List DefD) : PySem.W.Hook where
  α := AlS
  obs := fun s => obsSG n fx fn s.heap.get?
  val := fun _ => valS fn
  says := fun _ h => ∃ K : PySem.W.Frag, K.In h ∧ obsS fx fn K = valS fn
  of := fun _ _ e => ⟨_, frG_in, e⟩
  keeps := fun _ _ _ ⟨K, hK, c⟩ k => ⟨K, PySem.W.Frag.In.keeps hK k, c⟩
theorem obsSG_eq {n : Nat} {fx : List (PySem.W.Frag → Bool)} {fn : List DefD} {g : Addr → Option Obj} {s : Shared} (h : ∀ a, g a = s.heap.get? a) : obsSG n fx fn g = (hookS n fx fn).obs s := by
  have e : g = s.heap.get? := funext h
  rw [e]
  rfl
section
variable {fx : List (PySem.W.Frag → Bool)} {fn : List DefD} {K : PySem.W.Frag}
theorem sFact (c : obsS fx fn K = valS fn) (i : Nat) {f : PySem.W.Frag → Bool} (h : fx[i]? = some f := by rfl) : f K = true := by
  have c1 := (Bool.and_eq_true_iff.mp (show ((fx.all fun f => f K) && fn.all fun d => d.ok K) = true from congrArg (fun z : AlS => z.1) c)).1
  exact List.all_eq_true.mp c1 f (List.mem_of_getElem? h)
theorem sDef (c : obsS fx fn K = valS fn) (i : Nat) {d : DefD} (h : fn[i]? = some d := by rfl) : ∃ fd, FunD K d.name d.qual d.params d.body d.scope (d.dvs K) (d.kws K) (fAd K d.at_) fd := by
  have c2 := (Bool.and_eq_true_iff.mp (show ((fx.all fun f => f K) && fn.all fun d => d.ok K) = true from congrArg (fun z : AlS => z.1) c)).2
  have e : fn.map (fun d => fnW K d.at_) = fn.map DefD.val := congrArg (fun z : AlS => z.2) c
  have e2 : (fn.map fun d => fnW K d.at_)[i]? = (fn.map DefD.val)[i]? := by rw [e]
  rw [List.getElem?_map, List.getElem?_map, h] at e2
  exact DefD.funD (Option.some.inj e2) (List.all_eq_true.mp c2 d (List.mem_of_getElem? h))
end
/-! facts as truth values -/
def bGlo (x : Str) (K : PySem.W.Frag) : Bool := (Fa.glo x).ok K
def bFree (x : Str) (K : PySem.W.Frag) : Bool := (Fa.free x).ok K
def bCls (x : Str) (K : PySem.W.Frag) : Bool := (Fa.cls x).ok K
def bNoat (x f : Str) (K : PySem.W.Frag) : Bool := (Fa.noat x f).ok K
def bMeth (x m : Str) (K : PySem.W.Frag) : Bool := (Fa.meth x m).ok K
def bMkr (x : Str) (K : PySem.W.Frag) : Bool := (Fa.mkr x).ok K
def bExc (x : Str) (K : PySem.W.Frag) : Bool := (Fa.exc x).ok K
def bExm (x y : Str) (b : Bool) (K : PySem.W.Frag) : Bool := (Fa.exm x y b).ok K
def bKit (x y : Str) (b : Bool) (K : PySem.W.Frag) : Bool := decide (PySem.W.kitOne K (.ref (ga K x)) (.ref (ga K y)) = some b)
def bKitT (t : String) (y : Str) (b : Bool) (K : PySem.W.Frag) : Bool := decide (PySem.W.kitOne K (.type t) (.ref (ga K y)) = some b)
def bKitU (x : Str) (t : String) (b : Bool) (K : PySem.W.Frag) : Bool := decide (PySem.W.kitOne K (.ref (ga K x)) (.type t) = some b)
def bInsC (x : Str) (K : PySem.W.Frag) : Bool := decide (PySem.W.findIn K (.ref (ga K x)) "__class__" = some (some (.builtin "object.__class__"))) && (decide (PySem.W.specialIn K (.builtin "object.__class__") "__get__" = some (some (.builtin "getset_descriptor.__get__"))) &&
  (decide (PySem.W.takesIn K (.builtin "object.__class__") = some true) && decide (PySem.W.mroIn K (ga K x) (.type "object") = some true)))
def bExcC (x : Str) (K : PySem.W.Frag) : Bool := decide (PySem.W.findIn K (.ref (ga K x)) "__getattribute__" = some (some (.builtin "BaseException.__getattribute__"))) && (decide (PySem.W.findIn K (.ref (ga K x)) "__getattr__" = some none) && (decide (PySem.W.subIn K (.ref (ga K x)) (.type "BaseException") = some true) &&
  (PySem.W.hasDictIn K (ga K x) && bInsC x K)))
section
variable {K : PySem.W.Frag}
theorem kit_ok {x y : Str} {b : Bool} (h : bKit x y b K = true) : PySem.W.kitOne K (.ref (ga K x)) (.ref (ga K y)) = some b := of_decide_eq_true h
theorem kitT_ok {t : String} {y : Str} {b : Bool} (h : bKitT t y b K = true) : PySem.W.kitOne K (.type t) (.ref (ga K y)) = some b := of_decide_eq_true h
theorem kitU_ok {x : Str} {t : String} {b : Bool} (h : bKitU x t b K = true) : PySem.W.kitOne K (.ref (ga K x)) (.type t) = some b := of_decide_eq_true h
theorem insC_ok {x : Str} (c : Cls K (ga K x)) (h : bInsC x K = true) : InsC K (ga K x) := by
  obtain ⟨h1, h⟩ := Bool.and_eq_true_iff.mp h
  obtain ⟨h2, h⟩ := Bool.and_eq_true_iff.mp h
  obtain ⟨h3, h4⟩ := Bool.and_eq_true_iff.mp h
  exact ⟨c, of_decide_eq_true h1, of_decide_eq_true h2, of_decide_eq_true h3, of_decide_eq_true h4⟩
theorem excC_ok {x : Str} (h : bExcC x K = true) : ExcC K (ga K x) := by
  obtain ⟨h1, h⟩ := Bool.and_eq_true_iff.mp h
  obtain ⟨h2, h⟩ := Bool.and_eq_true_iff.mp h
  obtain ⟨h3, h⟩ := Bool.and_eq_true_iff.mp h
  obtain ⟨h4, h⟩ := Bool.and_eq_true_iff.mp h
  obtain ⟨h5, h⟩ := Bool.and_eq_true_iff.mp h
  obtain ⟨h6, h⟩ := Bool.and_eq_true_iff.mp h
  obtain ⟨h7, h8⟩ := Bool.and_eq_true_iff.mp h
  exact ⟨of_decide_eq_true h1, of_decide_eq_true h2, of_decide_eq_true h3, h4, of_decide_eq_true h5, of_decide_eq_true h6, of_decide_eq_true h7, of_decide_eq_true h8⟩
theorem xown_ok {X : Cx} {c : Nat} {x : Str} (hx : xName c = x) (hm : X.mg x = some (.ref (ga X.K x))) (h : bExc x X.K = true) : XOwn X c (ga X.K x) := by
  obtain ⟨h1, h2, h3, h4⟩ := exc_ok h
  exact ⟨by rw [hx]; exact hm, h1, h2, raises_own h3 h4⟩
/-! isinstance with a built-in class -/
def tbl (l : List (String × Bool)) : String → Option Bool := fun t => l.lookup t
theorem tbl_ok {u : Value} : ∀ {l : List (String × Bool)}, (∀ p ∈ l, PySem.W.kitOne K (.type p.1) u = some p.2) → ∀ t b, tbl l t = some b → PySem.W.kitOne K (.type t) u = some b
  | [], _, t, b, e => by simp [tbl] at e
  | (t', b') :: l, h, t, b, e => by
    unfold tbl at e
    rw [List.lookup_cons] at e
    by_cases z : t = t'
    · subst z
      simp at e
      subst e
      exact h _ List.mem_cons_self
    · have : (t == t') = false := by simpa using z
      rw [this] at e
      exact tbl_ok (fun p hp => h p (List.mem_cons_of_mem _ hp)) t b e
def tInt : List (String × Bool) := [("int", true), ("bool", true), ("NoneType", false), ("str", false), ("tuple", false), ("list", false), ("dict", false)]
def tBool : List (String × Bool) := [("int", false), ("bool", true), ("NoneType", false), ("str", false), ("tuple", false), ("list", false), ("dict", false)]
def tStr : List (String × Bool) := [("int", false), ("bool", false), ("NoneType", false), ("str", true), ("tuple", false), ("list", false), ("dict", false)]
def tTuple : List (String × Bool) := [("int", false), ("bool", false), ("NoneType", false), ("str", false), ("tuple", true), ("list", false), ("dict", false)]
def tList : List (String × Bool) := [("int", false), ("bool", false), ("NoneType", false), ("str", false), ("tuple", false), ("list", true), ("dict", false)]
def tOwn : List (String × Bool) := [("int", false), ("bool", false), ("NoneType", false), ("str", false), ("tuple", false), ("list", false), ("dict", false)]
theorem tInt_ok : ∀ t b, tbl tInt t = some b → PySem.W.kitOne K (.type t) (.type "int") = some b := tbl_ok (by
  intro p hp
  simp [tInt] at hp
  rcases hp with h | h | h | h | h | h | h <;> (subst h; exact kit_ty (by decide +kernel)))
theorem tBool_ok : ∀ t b, tbl tBool t = some b → PySem.W.kitOne K (.type t) (.type "bool") = some b := tbl_ok (by
  intro p hp
  simp [tBool] at hp
  rcases hp with h | h | h | h | h | h | h <;> (subst h; exact kit_ty (by decide +kernel)))
theorem tStr_ok : ∀ t b, tbl tStr t = some b → PySem.W.kitOne K (.type t) (.type "str") = some b := tbl_ok (by
  intro p hp
  simp [tStr] at hp
  rcases hp with h | h | h | h | h | h | h <;> (subst h; exact kit_ty (by decide +kernel)))
theorem tTuple_ok : ∀ t b, tbl tTuple t = some b → PySem.W.kitOne K (.type t) (.type "tuple") = some b := tbl_ok (by
  intro p hp
  simp [tTuple] at hp
  rcases hp with h | h | h | h | h | h | h <;> (subst h; exact kit_ty (by decide +kernel)))
theorem tList_ok : ∀ t b, tbl tList t = some b → PySem.W.kitOne K (.type t) (.type "list") = some b := tbl_ok (by
  intro p hp
  simp [tList] at hp
  rcases hp with h | h | h | h | h | h | h <;> (subst h; exact kit_ty (by decide +kernel)))
def bOwn (y : Str) (K : PySem.W.Frag) : Bool := tOwn.all fun p => bKitT p.1 y p.2 K
theorem tOwn_ok {y : Str} (h : bOwn y K = true) : ∀ t b, tbl tOwn t = some b → PySem.W.kitOne K (.type t) (.ref (ga K y)) = some b := tbl_ok fun p hp => kitT_ok (List.all_eq_true.mp h p hp)
end
/-! the same with three names -/
section
variable {X : Cx} {W : We} {a b c : Expr} {g : AF} {pos : Pos}
@[simp] def sPar3 (i j l : Nat) (g : AF) : SF := fun sg st => (g sg st).flw sg fun ds st1 => match ds with
  | [d, d', d''] => .nx (((sg.set i (some d)).set j (some d')).set l (some d'')) st1
  | _ => .bad
theorem ss_par3 {i j l : Nat} {x y z : Str} {px py pz pt : Pos} {kt k2 pt2} (hc : X.calm = true) (hN : X.N.Nodup) (hi : X.N[i]? = some x) (hj : X.N[j]? = some y) (hl : X.N[l]? = some z) (hij : i ≠ j) (hil : i ≠ l) (hjl : j ≠ l)
    (hx : X.env.scope.names.lookup x = some .local) (hy : X.env.scope.names.lookup y = some .local) (hz : X.env.scope.names.lookup z = some .local) (ha : SA X W [a, b, c] g)
    (hw : swappedStores [.Tuple [.Name x px, .Name y py, .Name z pz] kt pt] (.Tuple [a, b, c] k2 pt2) X.env = pure (some [x, y, z]))
    (hs : swapsWithSole [.Tuple [.Name x px, .Name y py, .Name z pz] kt pt] (.Tuple [a, b, c] k2 pt2) pos.line X.env = pure false := by rfl) : SS X W (.Assign [.Tuple [.Name x px, .Name y py, .Name z pz] kt pt] (.Tuple [a, b, c] k2 pt2) pos) (sPar3 i j l g) :=
  ps_weak (ps_par3 hc hN hi hj hl hij hil hjl hx hy hz ha hw hs) fun D σ H ⟨m, sg, st, e, rm, rs, hp⟩ => ⟨m, sg, st, e, rm, rs, flwc hp rs fun m1 ds vs st1 e1 r1 q1 hp1 => by
    split at hp1
    · cases q1 with
      | cons h1 q1 =>
        obtain ⟨v, w, rfl, h2, h3⟩ := reps2 (X := X) q1
        exact ⟨_, v, w, rfl, hp1 m1 _ (Ext.refl _) r1 ((((rs.mono e1).set i h1).set j h2).set l h3)⟩
    · exact False.elim hp1⟩
theorem se_edict {x : Expr} (h : PE X x (fun _ H Q => ∀ d, H d = none → Q (.ref d) (upd H d (.dK [])))) : SE X W x (fC .edict) := pe_weak h fun σ H Q ⟨m, sg, st, e, rm, rs, hp⟩ => by
  subst e
  exact hp.lay (α := D) rm fun p hn => .edict upd_same
end
end Sh
/-! Part I: the law's end. -/
namespace Sh
open PySem L2 He
section
variable {P : Program} {w : World} {K : PySem.W.Frag} {mg : Str → Option Value} {base : Heap}
theorem fn_cx0 {f : Addr} {fd : FuncData} {k : Nat} {ps : List Str} {sp : Sp} (h : FnOk P w K mg base (L2.CX P w) k f fd ps sp) (hE : ∀ vs H Q E, sp vs H Q E → sp vs H Q fun _ _ _ => False) : FnOk P w K mg base CX0 k f fd ps sp :=
  ⟨h.len, fun A outer s H args us vs Q E hr e0 b v q => codeAny_mono (h.run A outer s H args us vs Q (fun _ _ _ => False) hr e0 b v (hE _ _ _ _ q)) fun r s' z => by
    cases r with
    | error e =>
      obtain ⟨a, B, H', cls, d, _, _, _, _, _, _, _, hz⟩ := z
      exact hz.elim
    | ok g => cases g <;> exact z⟩
def spLaw (K : PySem.W.Frag) : Sp := fun vs H Q _ => ∃ (a : Addr) (ns : List Int), vs = [.ref a] ∧ SqL K H a (ns.map V.int) ∧ ns.length ≤ 63 ∧ ∀ H', Q (.bl true) H'
/-- the law's def, as the end wants it -/
theorem law_facts {x y : Str} {st : Stmt} {N : List Str} {k : Nat} {g : SF} (FD : ∃ fd, FunD K x x (defArgs st) (defBody st) (defScope st) [] [] (ga K x) fd) (S : FnScope N [y] (defScope st))
    (h : ∀ base : Heap, BodyOk P w K mg base N x st (ga K x) k g) (ht : ∀ l : List Int, l.length ≤ 63 → ∃ st, fnF N.length g [.scr l] [] = .ok (.bl true) st)
    (hb : ∀ (kV doc pm : Value) (an : Option Addr) (cdv ct : Value) (us : List Value), us.length = [y].length → bindArgs (PySem.W.fnOf x x (defArgs st) (defBody st) (defScope st) .none kV doc pm an cdv ct) ⟨us, []⟩ = pure ([y].zip us)) :
    ∃ fd : FuncData, (∀ (s : Shared) (v : Value), BindsTo s fd ⟨[v], []⟩ [(y, v)]) ∧ ∀ base : Heap, FnOk P w K mg base CX0 (k + 1) (ga K x) fd [y] (spLaw K) := by
  obtain ⟨fd, FD⟩ := FD
  exact ⟨fd, fun s v => FunD.bindsA FD hb s [v] rfl, fun base => fn_cx0 (law_ok (fn_okD FD S (h base)) ht) fun _ _ _ _ z => z⟩
end
end Sh
/-! Part J: what the meanings compute: rules to rewrite with, loops. -/
namespace Sh
open PySem L2
@[simp] theorem ev_fnF : type_of% @fnF.eq_def := @fnF.eq_def
@[simp] theorem ev_cF : type_of% @cF.eq_def := @cF.eq_def
@[simp] theorem ev_lenOf : type_of% @lenOf.eq_def := @lenOf.eq_def
@[simp] theorem ev_bLen : type_of% @bLen.eq_def := @bLen.eq_def
@[simp] theorem ev_bAbs : type_of% @bAbs.eq_def := @bAbs.eq_def
@[simp] theorem ev_bMax : type_of% @bMax.eq_def := @bMax.eq_def
@[simp] theorem ev_bMin : type_of% @bMin.eq_def := @bMin.eq_def
@[simp] theorem ev_bInt : type_of% @bInt.eq_def := @bInt.eq_def
@[simp] theorem ev_tyD : type_of% @tyD.eq_def := @tyD.eq_def
@[simp] theorem ev_clsD : type_of% @clsD.eq_def := @clsD.eq_def
@[simp] theorem ev_insOf : type_of% @insOf.eq_def := @insOf.eq_def
@[simp] theorem ev_dAdd : type_of% @dAdd.eq_def := @dAdd.eq_def
@[simp] theorem ev_dSub : type_of% @dSub.eq_def := @dSub.eq_def
@[simp] theorem ev_dMul : type_of% @dMul.eq_def := @dMul.eq_def
@[simp] theorem ev_dDiv : type_of% @dDiv.eq_def := @dDiv.eq_def
@[simp] theorem ev_dMod : type_of% @dMod.eq_def := @dMod.eq_def
@[simp] theorem ev_dPow : type_of% @dPow.eq_def := @dPow.eq_def
@[simp] theorem ev_dNeg : type_of% @dNeg.eq_def := @dNeg.eq_def
@[simp] theorem ev_dCmpI : type_of% @dCmpI.eq_def := @dCmpI.eq_def
@[simp] theorem ev_dIsN : type_of% @dIsN.eq_def := @dIsN.eq_def
@[simp] theorem ev_dNotN : type_of% @dNotN.eq_def := @dNotN.eq_def
@[simp] theorem ev_dTru : type_of% @dTru.eq_def := @dTru.eq_def
@[simp] theorem ev_itemsOf : type_of% @itemsOf.eq_def := @itemsOf.eq_def
@[simp] theorem ev_dAt : type_of% @dAt.eq_def := @dAt.eq_def
@[simp] theorem ev_dIx : type_of% @dIx.eq_def := @dIx.eq_def
@[simp] theorem ev_stSet : type_of% @stSet.eq_def := @stSet.eq_def
@[simp] theorem ev_rSub : type_of% @rSub.eq_def := @rSub.eq_def
@[simp] theorem ev_stFld : type_of% @stFld.eq_def := @stFld.eq_def
@[simp] theorem ev_rFldS : type_of% @rFldS.eq_def := @rFldS.eq_def
@[simp] theorem ev_ixN : type_of% @ixN.eq_def := @ixN.eq_def
theorem dEq_ok {x y x' y' : D} {st : Sto} (h : eqOk x' y' = true) (hx : resD st x = x' := by rfl) (hy : resD st y = y' := by rfl) : dEq x y st = .ok (.bl (dEqv x' y')) st := by subst hx; subst hy; exact if_pos h
theorem dNe_ok {x y x' y' : D} {st : Sto} (h : eqOk x' y' = true) (hx : resD st x = x' := by rfl) (hy : resD st y = y' := by rfl) : dNe x y st = .ok (.bl (!dEqv x' y')) st := by subst hx; subst hy; exact if_pos h
@[simp] theorem dEq_ii (i j : Int) (st : Sto) : dEq (.int i) (.int j) st = .ok (.bl (decide (i = j))) st := by
  have h : eqOk (.int i) (.int j) = true := rfl
  rw [dEq_ok h]
  rfl
@[simp] theorem dNe_ii (i j : Int) (st : Sto) : dNe (.int i) (.int j) st = .ok (.bl (!decide (i = j))) st := by
  have h : eqOk (.int i) (.int j) = true := rfl
  rw [dNe_ok h]
  rfl
@[simp] theorem dEq_t3 (a b c d e f : Int) (st : Sto) : dEq (.tup [.int a, .int b, .int c]) (.tup [.int d, .int e, .int f]) st = .ok (.bl (decide (a = d) && (decide (b = e) && decide (c = f)))) st := by
  have h : eqOk (.tup [.int a, .int b, .int c]) (.tup [.int d, .int e, .int f]) = true := rfl
  rw [dEq_ok h]
  have z : ∀ x y : Int, (x == y) = decide (x = y) := fun _ _ => rfl
  simp [z]
@[simp] theorem dNe_t3 (a b c d e f : Int) (st : Sto) : dNe (.tup [.int a, .int b, .int c]) (.tup [.int d, .int e, .int f]) st = .ok (.bl !(decide (a = d) && (decide (b = e) && decide (c = f)))) st := by
  have h : eqOk (.tup [.int a, .int b, .int c]) (.tup [.int d, .int e, .int f]) = true := rfl
  rw [dNe_ok h]
  have z : ∀ x y : Int, (x == y) = decide (x = y) := fun _ _ => rfl
  simp [z]
/-! isinstance by cases -/
@[simp] theorem isi_int (i : Int) (cl : List (Nat × Bool)) (st : Sto) : bIsi (tbl tInt) cl (.int i) st = .ok (.bl true) st ∧ bIsi (tbl tBool) cl (.int i) st = .ok (.bl false) st ∧ bIsi (tbl tStr) cl (.int i) st = .ok (.bl false) st ∧ bIsi (tbl tTuple) cl (.int i) st = .ok (.bl false) st ∧ bIsi (tbl tList) cl (.int i) st = .ok (.bl false) st ∧ bIsi (tbl tOwn) cl (.int i) st = .ok (.bl false) st := ⟨rfl, rfl, rfl, rfl, rfl, rfl⟩
@[simp] theorem isi_bl (i : Bool) (cl : List (Nat × Bool)) (st : Sto) : bIsi (tbl tInt) cl (.bl i) st = .ok (.bl true) st ∧ bIsi (tbl tBool) cl (.bl i) st = .ok (.bl true) st ∧ bIsi (tbl tStr) cl (.bl i) st = .ok (.bl false) st ∧ bIsi (tbl tTuple) cl (.bl i) st = .ok (.bl false) st ∧ bIsi (tbl tList) cl (.bl i) st = .ok (.bl false) st ∧ bIsi (tbl tOwn) cl (.bl i) st = .ok (.bl false) st := ⟨rfl, rfl, rfl, rfl, rfl, rfl⟩
@[simp] theorem isi_non (cl : List (Nat × Bool)) (st : Sto) : bIsi (tbl tInt) cl .non st = .ok (.bl false) st ∧ bIsi (tbl tBool) cl .non st = .ok (.bl false) st ∧ bIsi (tbl tStr) cl .non st = .ok (.bl false) st ∧ bIsi (tbl tTuple) cl .non st = .ok (.bl false) st ∧ bIsi (tbl tList) cl .non st = .ok (.bl false) st ∧ bIsi (tbl tOwn) cl .non st = .ok (.bl false) st := ⟨rfl, rfl, rfl, rfl, rfl, rfl⟩
@[simp] theorem isi_str (i : Str) (cl : List (Nat × Bool)) (st : Sto) : bIsi (tbl tInt) cl (.str i) st = .ok (.bl false) st ∧ bIsi (tbl tBool) cl (.str i) st = .ok (.bl false) st ∧ bIsi (tbl tStr) cl (.str i) st = .ok (.bl true) st ∧ bIsi (tbl tTuple) cl (.str i) st = .ok (.bl false) st ∧ bIsi (tbl tList) cl (.str i) st = .ok (.bl false) st ∧ bIsi (tbl tOwn) cl (.str i) st = .ok (.bl false) st := ⟨rfl, rfl, rfl, rfl, rfl, rfl⟩
@[simp] theorem isi_tup (i : List D) (cl : List (Nat × Bool)) (st : Sto) : bIsi (tbl tInt) cl (.tup i) st = .ok (.bl false) st ∧ bIsi (tbl tBool) cl (.tup i) st = .ok (.bl false) st ∧ bIsi (tbl tStr) cl (.tup i) st = .ok (.bl false) st ∧ bIsi (tbl tTuple) cl (.tup i) st = .ok (.bl true) st ∧ bIsi (tbl tList) cl (.tup i) st = .ok (.bl false) st ∧ bIsi (tbl tOwn) cl (.tup i) st = .ok (.bl false) st := ⟨rfl, rfl, rfl, rfl, rfl, rfl⟩
@[simp] theorem isi_lst (i : List D) (cl : List (Nat × Bool)) (st : Sto) : bIsi (tbl tInt) cl (.lst i) st = .ok (.bl false) st ∧ bIsi (tbl tBool) cl (.lst i) st = .ok (.bl false) st ∧ bIsi (tbl tStr) cl (.lst i) st = .ok (.bl false) st ∧ bIsi (tbl tTuple) cl (.lst i) st = .ok (.bl false) st ∧ bIsi (tbl tList) cl (.lst i) st = .ok (.bl true) st ∧ bIsi (tbl tOwn) cl (.lst i) st = .ok (.bl false) st := ⟨rfl, rfl, rfl, rfl, rfl, rfl⟩
@[simp] theorem isi_ed (cl : List (Nat × Bool)) (st : Sto) : bIsi (tbl tInt) cl .edict st = .ok (.bl false) st ∧ bIsi (tbl tBool) cl .edict st = .ok (.bl false) st ∧ bIsi (tbl tStr) cl .edict st = .ok (.bl false) st ∧ bIsi (tbl tTuple) cl .edict st = .ok (.bl false) st ∧ bIsi (tbl tList) cl .edict st = .ok (.bl false) st ∧ bIsi (tbl tOwn) cl .edict st = .ok (.bl false) st := ⟨rfl, rfl, rfl, rfl, rfl, rfl⟩
@[simp] theorem isi_ins (tb : String → Option Bool) (c : Nat) (l : List D) (cl : List (Nat × Bool)) (st : Sto) : bIsi tb cl (.ins c l) st = match cl.lookup c with
  | some b => .ok (.bl b) st
  | none => .bad := rfl
theorem dMulI {i j : Int} {st : Sto} (h : mulOk i j) : dMul (.int i) (.int j) st = .ok (.int (i * j)) st := by simp [h]
theorem dDivI {i j : Int} {st : Sto} (h : 0 < j) (h2 : divOk j) : dDiv (.int i) (.int j) st = .ok (.int (i / j)) st := by simp [h, h2]
theorem dModI {i j : Int} {st : Sto} (h : 0 < j) : dMod (.int i) (.int j) st = .ok (.int (i % j)) st := by simp [h]
theorem dPowI {i j : Int} {st : Sto} (h : powOk i j) : dPow (.int i) (.int j) st = .ok (.int (i ^ j.toNat)) st := by simp [h]
theorem nat_lt_pow {i : Int} {n : Nat} (h0 : 0 ≤ i) (h : i < 2 ^ n) : i.natAbs < 2 ^ n := by
  have e : ((i.natAbs : Nat) : Int) = i := Int.natAbs_of_nonneg h0
  have : ((i.natAbs : Nat) : Int) < ((2 ^ n : Nat) : Int) := by rw [e]; simpa using h
  exact_mod_cast this
theorem abs_lt_pow {i : Int} {n : Nat} (h0 : -(2 ^ n) < i) (h : i < 2 ^ n) : i.natAbs < 2 ^ n := by
  rcases Int.le_total 0 i with z | z
  · exact nat_lt_pow z h
  · have := nat_lt_pow (i := -i) (n := n) (by omega) (by omega)
    simpa using this
theorem powOk_of {i : Int} {j n : Nat} (h : i.natAbs < 2 ^ n) (hn : 0 < n) (hj : n * j ≤ 2 ^ 27) : powOk i j := by
  have y := log2_lt' h hn
  refine ⟨Int.natCast_nonneg j, ?_⟩
  have : (i.natAbs.log2 + 1) * j ≤ n * j := Nat.mul_le_mul_right _ (by omega)
  have h2 : (i.natAbs.log2 + 1) * j ≤ 2 ^ 27 := by omega
  have h3 : (((i.natAbs.log2 + 1) * j : Nat) : Int) ≤ ((2 ^ 27 : Nat) : Int) := Int.ofNat_le.mpr h2
  simpa using h3
/-! loops -/
@[simp] theorem dEq_t2 (a b d e : Int) (st : Sto) : dEq (.tup [.int a, .int b]) (.tup [.int d, .int e]) st = .ok (.bl (decide (a = d) && decide (b = e))) st := by
  have h : eqOk (.tup [.int a, .int b]) (.tup [.int d, .int e]) = true := rfl
  rw [dEq_ok h]
  have z : ∀ x y : Int, (x == y) = decide (x = y) := fun _ _ => rfl
  simp [z]
@[simp] theorem dNe_nil (st : Sto) : dNe (.lst []) (.lst []) st = .ok (.bl false) st := by
  have h : eqOk (.lst []) (.lst []) = true := rfl
  rw [dNe_ok h]
  rfl
/-! sizes -/
def Bd (n : Nat) (x : Int) : Prop := x.natAbs < 2 ^ n
theorem Bd.mono {n m : Nat} {x : Int} (h : Bd n x) (e : n ≤ m) : Bd m x := Nat.lt_of_lt_of_le h (Nat.pow_le_pow_right (by decide) e)
theorem Bd.add {n m : Nat} {x y : Int} (h : Bd n x) (k : Bd m y) : Bd (n + m + 1) (x + y) := by
  have h1 := h.mono (show n ≤ n + m by omega)
  have k1 := k.mono (show m ≤ n + m by omega)
  unfold Bd at *
  have : (x + y).natAbs ≤ x.natAbs + y.natAbs := Int.natAbs_add_le x y
  rw [Nat.pow_succ]; omega
theorem Bd.neg {n : Nat} {x : Int} (h : Bd n x) : Bd n (-x) := by unfold Bd at *; rwa [Int.natAbs_neg]
theorem Bd.sub {n m : Nat} {x y : Int} (h : Bd n x) (k : Bd m y) : Bd (n + m + 1) (x - y) := by rw [Int.sub_eq_add_neg]; exact h.add k.neg
theorem Bd.mul {n m : Nat} {x y : Int} (h : Bd n x) (k : Bd m y) : Bd (n + m) (x * y) := by
  unfold Bd at *
  rw [Int.natAbs_mul, Nat.pow_add]
  exact Nat.mul_lt_mul'' h k
theorem Bd.of {n : Nat} {x : Int} (h : -(2 ^ n) < x) (k : x < 2 ^ n) : Bd n x := abs_lt_pow h k
theorem Bd.fac {n : Nat} {g x y : Int} (h : Bd n x) (hg : 0 < g) (e : x = g * y) : Bd n y := by
  unfold Bd at *
  rw [e, Int.natAbs_mul] at h
  have : 1 ≤ g.natAbs := by omega
  exact Nat.lt_of_le_of_lt (Nat.le_mul_of_pos_left _ this) h
theorem Bd.mulOk {n m : Nat} {x y : Int} (h : Bd n x) (k : Bd m y) (e : n + m ≤ 100000 := by decide) : Sh.mulOk x y :=
  mulOk_of (h.mono (Nat.le_succ n)) (k.mono (Nat.le_succ m)) (Nat.succ_pos _) (Nat.succ_pos _) (by omega)
theorem Bd.divOk {n : Nat} {x : Int} (h : Bd n x) (e : n ≤ 8000 := by decide) : Sh.divOk x := divOk_of (h.mono (Nat.le_succ n)) (Nat.succ_pos _) (by omega)
/-! comprehensions -/
theorem lc_keep {ck : Sto → Prop} {t : Tg} {c : TF} {f : EF} {sg : Sg} {st : Sto} (keep : D → Option D) (hc : ck st) : ∀ l : List D,
    (∀ d ∈ l, ∃ sg1, setT t d sg = some sg1 ∧ ((c sg1 st = .ok false st ∧ keep d = none) ∨ (c sg1 st = .ok true st ∧ ∃ y, f sg1 st = .ok y st ∧ keep d = some y))) → lcF ck t c f sg l st = .ok (l.filterMap keep) st
  | [], _ => by unfold lcF; rw [if_pos hc]; rfl
  | d :: l, h => by
    have ih := lc_keep (c := c) (f := f) (sg := sg) keep hc l fun x hx => h x (List.mem_cons_of_mem _ hx)
    obtain ⟨sg1, e1, e2⟩ := h d List.mem_cons_self
    unfold lcF
    rw [if_pos hc, e1]
    rcases e2 with ⟨e2, e3⟩ | ⟨e2, y, e3, e4⟩
    · simp [e2, e3, ih]
    · simp [e2, e3, e4, ih]
theorem for_nil {ck : Sto → Prop} {t : Tg} {g : SF} {sg : Sg} {st : Sto} (h : ck st) : forF ck t g [] sg st = .nx sg st := by simp [forF, h]
theorem for_cons {ck : Sto → Prop} {t : Tg} {g : SF} {d : D} {l : List D} {sg sg1 : Sg} {st : Sto} (h : ck st) (e : setT t d sg = some sg1) : forF ck t g (d :: l) sg st = (g sg1 st).loop (forF ck t g l) := by
  conv => lhs; unfold forF
  rw [if_pos h, e]
/-- a loop that runs to its end; J i: what holds ahead of turn i -/
theorem for_run {ck : Sto → Prop} {t : Tg} {g : SF} : ∀ (l : List D) (J : Nat → Sg → Sto → Prop) (sg : Sg) (st : Sto), J 0 sg st → (∀ i sg st, J i sg st → ck st) →
    (∀ i d sg st, l[i]? = some d → J i sg st → ∃ sg1, setT t d sg = some sg1 ∧ ∃ sg' st', (g sg1 st = .nx sg' st' ∨ g sg1 st = .cnt sg' st') ∧ J (i + 1) sg' st') →
    ∃ sg' st', forF ck t g l sg st = .nx sg' st' ∧ J l.length sg' st'
  | [], J, sg, st, h0, hc, hs => ⟨sg, st, for_nil (hc _ _ _ h0), h0⟩
  | d :: l, J, sg, st, h0, hc, hs => by
    obtain ⟨sg1, e1, sg', st', e2, j1⟩ := hs 0 d sg st rfl h0
    obtain ⟨sg2, st2, e3, j2⟩ := for_run l (fun i => J (i + 1)) sg' st' j1 (fun i sg st z => hc _ _ _ z) fun i d sg st q z => hs (i + 1) d sg st (by simpa using q) z
    refine ⟨sg2, st2, ?_, j2⟩
    rw [for_cons (hc _ _ _ h0) e1]
    rcases e2 with e2 | e2 <;> rw [e2] <;> exact e3
/-- one thing stays true, whatever the turn -/
theorem for_all {ck : Sto → Prop} {t : Tg} {g : SF} {l : List D} {sg : Sg} {st : Sto} (I : Sg → Sto → Prop) (h0 : I sg st) (hc : ∀ sg st, I sg st → ck st)
    (hs : ∀ d sg st, d ∈ l → I sg st → ∃ sg1, setT t d sg = some sg1 ∧ ∃ sg' st', (g sg1 st = .nx sg' st' ∨ g sg1 st = .cnt sg' st') ∧ I sg' st') :
    ∃ sg' st', forF ck t g l sg st = .nx sg' st' ∧ I sg' st' :=
  for_run l (fun _ => I) sg st h0 (fun _ => hc) fun i d sg st q z => hs d sg st (List.mem_of_getElem? q) z
/-- where a body comes to its end, or goes on -/
def Flw.to (P : Sg → Sto → Prop) : Flw → Prop
  | .nx sg st => P sg st
  | .cnt sg st => P sg st
  | _ => False
@[simp] theorem to_nx {P : Sg → Sto → Prop} {sg : Sg} {st : Sto} : (Flw.nx sg st).to P = P sg st := rfl
@[simp] theorem to_cnt {P : Sg → Sto → Prop} {sg : Sg} {st : Sto} : (Flw.cnt sg st).to P = P sg st := rfl
theorem to_cg {x y : Flw} {P : Sg → Sto → Prop} (h : x = y) : x.to P = y.to P := by rw [h]
theorem to_of {P : Sg → Sto → Prop} {f : Flw} (h : f.to P) : ∃ sg' st', (f = .nx sg' st' ∨ f = .cnt sg' st') ∧ P sg' st' := by
  cases f with
  | nx sg st => exact ⟨sg, st, .inl rfl, h⟩
  | cnt sg st => exact ⟨sg, st, .inr rfl, h⟩
  | _ => exact h.elim
theorem for_to {ck : Sto → Prop} {t : Tg} {g : SF} {l : List D} {sg : Sg} {st : Sto} (I : Sg → Sto → Prop) (h0 : I sg st) (hc : ∀ sg st, I sg st → ck st)
    (hs : ∀ d sg st, d ∈ l → I sg st → ∃ sg1, setT t d sg = some sg1 ∧ (g sg1 st).to I) : ∃ sg' st', forF ck t g l sg st = .nx sg' st' ∧ I sg' st' :=
  for_all I h0 hc fun d sg st hd hi => let ⟨sg1, e, h⟩ := hs d sg st hd hi; ⟨sg1, e, to_of h⟩
theorem for_toN {ck : Sto → Prop} {t : Tg} {g : SF} {l : List D} {sg : Sg} {st : Sto} (J : Nat → Sg → Sto → Prop) (h0 : J 0 sg st) (hc : ∀ i sg st, J i sg st → ck st)
    (hs : ∀ i d sg st, l[i]? = some d → J i sg st → ∃ sg1, setT t d sg = some sg1 ∧ (g sg1 st).to (J (i + 1))) : ∃ sg' st', forF ck t g l sg st = .nx sg' st' ∧ J l.length sg' st' :=
  for_run l J sg st h0 hc fun i d sg st hd hi => let ⟨sg1, e, h⟩ := hs i d sg st hd hi; ⟨sg1, e, to_of h⟩
theorem wh_step {t : TF} {g : SF} {n : Nat} {sg : Sg} {st : Sto} : whF t g (n + 1) sg st = (t sg st).flw sg fun b st1 => if b = true then (g sg st1).loop (whF t g n) else .nx sg st1 := rfl
theorem fuel_big : 2 ^ 4000 ≤ fuel := by unfold fuel; exact Nat.le_refl _
theorem fuel_eq {m : Nat} (h : m ≤ 2 ^ 4000) : ∃ n, fuel = m + n := ⟨fuel - m, by have := fuel_big; omega⟩
theorem mem_rng {lo : Int} {n : Nat} {d : D} (h : d ∈ rngD lo n) : ∃ i : Nat, i < n ∧ d = .int (lo + i) := by
  unfold rngD at h
  obtain ⟨i, h1, h2⟩ := List.mem_map.mp h
  exact ⟨i, by simpa using h1, h2.symm⟩
/-- the turns of a law's own loop -/
theorem law_rng {l : List Int} {n : Int} {sg : Sg} {st : Sto} (h : sg[0]? = some (some (.scr l))) (hn : 1 ≤ n) (hn2 : n ≤ 64) : ∃ m : Nat, (m : Int) ≤ n ∧
    iRange1 (aCons (fCall bMax (aCons (fC (.int 1)) (aCons (fCall bMin (aCons (fC (.int n)) (aCons (fCall bLen (aCons (fVar 0) aNil)) aNil))) aNil))) aNil) sg st = .ok ⟨rngD 0 m, fun _ => True⟩ st := by
  generalize hm : (if (1 : Int) < (if (l.length : Int) < n then (l.length : Int) else n) then (if (l.length : Int) < n then (l.length : Int) else n) else 1) = m
  have hm1 : 1 ≤ m ∧ m ≤ n := by rw [← hm]; split <;> split <;> omega
  refine ⟨m.toNat, by omega, ?_⟩
  simp -implicitDefEqProofs [h, hm]
  omega
end Sh
/-! Part K: operators that a class defines; keywords. -/
namespace Sh
open PySem L2 He
/-- what a two-place operation means, the wish of the slots within -/
def BinS (X : Cx) (W : We) (f : Value → Value → Sem Value) (sem : D → D → Sto → Res D) : Prop :=
  ∀ (pins : List (Addr × Obj)) (s : Shared) (σ : St) (m : Hw) (st : Sto) (x y : D) (xv yv : V) (v u : Value) (Q : VK), Inv X pins σ m.h s → RelV xv v → RelV yv u → Rel X.K X.mg m st → Rep X.K X.mg m.r m.g x xv → Rep X.K X.mg m.r m.g y yv →
    Post X.K X.mg W.w m σ (RD X.K X.mg) Q (sem x y st) → wpAny (model X.prog X.w) X.A (f v u) (EP X pins σ Q) X.xe s
def UnS (X : Cx) (W : We) (f : Value → Sem Value) (sem : D → Sto → Res D) : Prop :=
  ∀ (pins : List (Addr × Obj)) (s : Shared) (σ : St) (m : Hw) (st : Sto) (x : D) (xv : V) (v : Value) (Q : VK), Inv X pins σ m.h s → RelV xv v → Rel X.K X.mg m st → Rep X.K X.mg m.r m.g x xv →
    Post X.K X.mg W.w m σ (RD X.K X.mg) Q (sem x st) → wpAny (model X.prog X.w) X.A (f v) (EP X pins σ Q) X.xe s
section
variable {X : Cx} {W : We} {a b : Expr} {fa fb : EF} {pos : Pos} {sem base : D → D → Sto → Res D} {sem1 base1 : D → Sto → Res D} {f : Value → Value → Sem Value} {k c : Nat} {g C : Addr} {F : FF} {ps : List Str} {m : Str}
theorem BinS.of {r : R2} (ho : OpR X f r) (hs : Fits2 X W r sem) : BinS X W f sem := fun pins s σ m st x y xv yv v u Q I rx ry rm qx qy hp => ho pins s σ m.h xv yv v u Q I rx ry (hs m st σ x y xv yv Q rm qx qy hp)
theorem UnS.of {f : Value → Sem Value} {r : V → Hp → VK → Prop} (ho : UnR X f r) (hs : Fits1 X W r sem1) : UnS X W f sem1 := fun pins s σ m st x xv v Q I rx rm qx hp => ho pins s σ m.h xv v Q I rx (hs m st σ x xv Q rm qx hp)
/-- both sides, then what is done with them -/
theorem bin_of (h : BinS X W f sem) (ha : SE X W a fa) (hb : SE X W b fb) {pins : List (Addr × Obj)} {s : Shared} {σ : St} {H : Hp} {Q : VK} (I : Inv X pins σ H s) (t : TOf X.K X.mg W (RD X.K X.mg) (fBin sem fa fb) σ H Q) :
    wpAny (model X.prog X.w) X.A (eval a X.env) (fun v s₁ => wpAny (model X.prog X.w) X.A (eval b X.env) (fun u s₂ => wpAny (model X.prog X.w) X.A (f v u) (EP X pins σ Q) X.xe s₂) X.xe s₁) X.xe s := by
  obtain ⟨w, sg, st, rfl, rm, rs, hp⟩ := t
  refine thn (ha.run pins s σ w.h (MPost X W σ sg Q fun x st1 => (fb sg st1).bind fun y st2 => sem x y st2) I ⟨w, sg, st, rfl, rm, rs, hp.bindc fun m1 x v st1 e1 r1 q1 hp1 => ⟨m1, x, st1, rfl, r1, rs.mono e1, q1, hp1⟩⟩) fun u s1 hh => ?_
  obtain ⟨v, H1, I1, rv, m1, x, st1, rfl, r1, rs1, q1, hp1⟩ := hh
  refine thn (hb.run pins s1 σ m1.h (fun v2 H2 => ∃ m2 y st2, m2.h = H2 ∧ Ext m1 m2 ∧ Rel X.K X.mg m2 st2 ∧ Rep X.K X.mg m2.r m2.g y v2 ∧ Post X.K X.mg W.w m2 σ (RD X.K X.mg) Q (sem x y st2)) I1
    ⟨m1, sg, st1, rfl, r1, rs1, hp1.bindc fun m2 y v2 st2 e2 r2 q2 hp2 => ⟨m2, y, st2, rfl, e2, r2, q2, hp2⟩⟩) fun u2 s2 hz => ?_
  obtain ⟨v2, H2, I2, rv2, m2, y, st2, rfl, e2, r2, q2, hp2⟩ := hz
  exact h pins s2 σ m2 st2 x y v v2 u u2 Q I2 rv rv2 r2 (q1.mono e2) q2 hp2
theorem se_binS {op : Operator} (h : BinS X W (binaryOp op) sem) (ha : SE X W a fa) (hb : SE X W b fb) : SE X W (.BinOp a op b pos) (fBin sem fa fb) := ⟨fun pins s σ H Q I t => wpAny_BinOp (bin_of h ha hb I t)⟩
theorem se_cmpS {op : CmpOp} (h : BinS X W (compareOp op) sem) (ha : SE X W a fa) (hb : SE X W b fb) (hm : behindInMarks op b = false) : SE X W (.Compare a [op] [b] pos) (fBin sem fa fb) := ⟨fun pins s σ H Q I t => wpAny_Compare1 (bin_of h ha hb I t) hm⟩
theorem se_unS {op : UnaryOp} (h : UnS X W (unaryOp op) sem1) (ha : SE X W a fa) : SE X W (.UnaryOp op a pos) (fUn sem1 fa) := ⟨fun pins s σ H Q I t => by
  obtain ⟨w, sg, st, rfl, rm, rs, hp⟩ := t
  refine PyProof.Rows.UnaryOp_ (thn (ha.run pins s σ w.h (MPost X W σ sg Q fun x st1 => sem1 x st1) I ⟨w, sg, st, rfl, rm, rs, hp.bindc fun m1 x v st1 e1 r1 q1 hp1 => ⟨m1, x, st1, rfl, r1, rs.mono e1, q1, hp1⟩⟩) fun u s1 hh => ?_)
  obtain ⟨v, H1, I1, rv, m1, x, st1, rfl, r1, rs1, q1, hp1⟩ := hh
  exact h pins s1 σ m1 st1 x v u Q I1 rv r1 q1 hp1⟩
theorem post_bool {w : Hw} {σ : St} {Q : Bool → Hp → Prop} {r : Res D} (hp : Post X.K X.mg W.w w σ RB Q (r.bind fun x st1 => match x with
      | .bl b => .ok b st1
      | _ => .bad)) : Post X.K X.mg W.w w σ (RD X.K X.mg) (fun v H3 => ∃ k, v = .bl k ∧ Q k H3) r := by
  cases r with
  | ok d st1 =>
    intro m' v e r q'
    cases d with
    | bl b => cases q'; exact ⟨b, rfl, hp m' b e r rfl⟩
    | _ => exact False.elim hp
  | exc c o st1 => exact hp
  | bad => exact hp
theorem sb_cmpS {op : CmpOp} (h : BinS X W (compareOp op) sem) (ha : SE X W a fa) (hb : SE X W b fb) (hm : behindInMarks op b = false) : SB X W (.Compare a [op] [b] pos) (tOfE (fBin sem fa fb)) := by
  refine ⟨fun pins s σ H Q I t => ?_⟩
  obtain ⟨w, sg, st, rfl, rm, rs, hp⟩ := t
  have hp2 := post_bool hp
  refine wpAny_isTrue_Compare1 (wpAny_mono (bin_of h ha hb I ⟨w, sg, st, rfl, rm, rs, hp2⟩) (fun v s1 q => wpAny_mono q (fun u s2 q => wpAny_mono q (fun c s3 q => ?_) fun _ _ z => z) fun _ _ z => z) fun _ _ z => z) hm
  obtain ⟨v, H3, I3, r3, k, e, q3⟩ := q
  subst e
  cases (show c = Value.bool k from r3)
  exact wpAny_truthy_bool ⟨H3, I3, q3⟩
/-! own operators -/
theorem inst_of {pins : List (Addr × Obj)} {s : Shared} {σ : St} {m : Hw} {st : Sto} {x : D} {v : V} {l : List D} (I : Inv X pins σ m.h s) (hc : X.mg (cName c) = some (.ref C)) (rm : Rel X.K X.mg m st) (q : Rep X.K X.mg m.r m.g x v) (e : insOf c x st = some l) :
    ∃ a ox od, v = .ref a ∧ PySem.W.InstAt s.heap a ox C od ∧ ox.data = .plain := by
  obtain ⟨a, dx, fs, h0, h1, h2, h3⟩ := ins_of rm q e hc
  obtain ⟨mA, O, _⟩ := ins_get I.hok h1
  obtain ⟨od, J, _⟩ := O.look
  exact ⟨a, _, od, h0, J, rfl⟩
/-- x op y by the class's own def -/
def dOwnI (c : Nat) (F : FF) (n : Nat) (base : D → D → Sto → Res D) : D → D → Sto → Res D := fun x y st => match insOf c x st, insOf c y st with
  | some _, some _ => cF F n [] [x, y] st
  | _, _ => base x y st
/-- x op i, i an int -/
def dOwnN (c : Nat) (F : FF) (n : Nat) (base : D → D → Sto → Res D) : D → D → Sto → Res D := fun x y st => match insOf c x st, y with
  | some _, .int _ => cF F n [] [x, y] st
  | _, _ => base x y st
def uOwn (c : Nat) (F : FF) (n : Nat) (base : D → Sto → Res D) : D → Sto → Res D := fun x st => match insOf c x st with
  | some _ => cF F n [] [x] st
  | _ => base x st
theorem dBad_ok : BinS X W f (fun _ _ _ => .bad) := fun _ _ _ _ _ _ _ _ _ _ _ _ _ _ _ _ _ _ hp => hp.elim
theorem uBad_ok {f : Value → Sem Value} : UnS X W f (fun _ _ => .bad) := fun _ _ _ _ _ _ _ _ _ _ _ _ _ hp => hp.elim
theorem BinS.ownI {op : Operator} (h : DefOk X.prog X.w X.K X.mg X.base k g ps [] F) (hr : Room k X.A) (tk : Takes X W.w) (hc : X.mg (cName c) = some (.ref C)) (hme : Meth X.K C (PySem.dunder op.info.2) g) (sf : PySem.W.selfFirst X.K C = true) (hb : BinS X W (binaryOp op) base) :
    BinS X W (binaryOp op) (dOwnI c F ps.length base) := by
  intro pins s σ m st x y xv yv v u Q I rx ry rm qx qy hp
  unfold dOwnI at hp
  split at hp
  · rename_i l1 l2 e1 e2
    obtain ⟨a, ox, od, rfl, J, _⟩ := inst_of I hc rm qx e1
    obtain ⟨a2, ox2, od2, rfl, J2, _⟩ := inst_of I hc rm qy e2
    obtain rfl : v = Value.ref a := rx
    obtain rfl : u = Value.ref a2 := ry
    obtain ⟨mm, hF⟩ := I.fr
    obtain ⟨⟨fd, h1, h2, _⟩, h3⟩ := h
    obtain ⟨ds, dv, bb⟩ := h2 0 (Nat.zero_le _)
    refine PySem.W.binop_K hF I.ok.mod.kin J J2.type sf hme.at_ hme.fn (wpAny_mono (run_meth (us := [.ref a2]) (vs := [.ref a2]) h1 hr tk bb ⟨dv, fun _ _ => .nil⟩ qx I (.cons rfl .nil) (Ext.refl m) rm (.one qy) hp) (fun w' s' z => ?_) fun _ _ z => z)
    obtain ⟨z', H', I', rz, qz⟩ := z
    exact SlX.cmpback rz ⟨z', H', I', rz, qz⟩
  · exact hb pins s σ m st x y xv yv v u Q I rx ry rm qx qy hp
/-- what the class must be for an int at the right -/
structure OpN (K : PySem.W.Frag) (C : Addr) (nm : String) : Prop where
  r : ∃ rc, PySem.W.findIn K (.ref C) (dunderR nm) = some rc ∧ (rc = none ∨ ∃ g : Addr, rc = some (.ref g))
  i : ∃ fo, PySem.W.findIn K (.type "int") (PySem.dunder nm) = some fo
  j : ∃ ro, PySem.W.findIn K (.type "int") (dunderR nm) = some ro
  s : PySem.W.subIn K (.type "int") (.ref C) = some false
theorem BinS.ownN {op : Operator} (h : DefOk X.prog X.w X.K X.mg X.base k g ps [] F) (hr : Room k X.A) (tk : Takes X W.w) (hc : X.mg (cName c) = some (.ref C)) (hme : Meth X.K C (PySem.dunder op.info.2) g) (sf : PySem.W.selfFirst X.K C = true) (hn : OpN X.K C op.info.2) (hb : BinS X W (binaryOp op) base) :
    BinS X W (binaryOp op) (dOwnN c F ps.length base) := by
  intro pins s σ m st x y xv yv v u Q I rx ry rm qx qy hp
  unfold dOwnN at hp
  split at hp
  · rename_i l1 i e1
    obtain ⟨a, ox, od, rfl, J, _⟩ := inst_of I hc rm qx e1
    cases qy with
    | int i =>
    obtain rfl : v = Value.ref a := rx
    obtain ⟨t, rfl⟩ := (show ∃ t, u = Value.int i t from ry)
    obtain ⟨mm, hF⟩ := I.fr
    obtain ⟨⟨fd, h1, h2, _⟩, h3⟩ := h
    obtain ⟨ds, dv, bb⟩ := h2 0 (Nat.zero_le _)
    obtain ⟨rc, n1, n2⟩ := hn.r
    obtain ⟨fo, n3⟩ := hn.i
    obtain ⟨ro, n4⟩ := hn.j
    refine PySem.W.ksp_binT hF I.ok.mod.kin J rfl sf hme.at_ hme.fn n1 n2 n3 n4 hn.s (wpAny_mono (run_meth (us := [.int i t]) (vs := [.int i]) h1 hr tk bb ⟨dv, fun _ _ => .nil⟩ qx I (.cons ⟨t, rfl⟩ .nil) (Ext.refl m) rm (.one (.int i)) hp) (fun w' s' z => ?_) fun _ _ z => z)
    obtain ⟨z', H', I', rz, qz⟩ := z
    exact SlX.cmpback rz ⟨z', H', I', rz, qz⟩
  · exact hb pins s σ m st x _ xv yv v u Q I rx ry rm qx qy hp
theorem UnS.neg (h : DefOk X.prog X.w X.K X.mg X.base k g ps [] F) (hr : Room k X.A) (tk : Takes X W.w) (hc : X.mg (cName c) = some (.ref C)) (hme : Meth X.K C "__neg__" g) (hb : UnS X W (unaryOp .USub) base1) : UnS X W (unaryOp .USub) (uOwn c F ps.length base1) := by
  intro pins s σ m st x xv v Q I rx rm qx hp
  unfold uOwn at hp
  split at hp
  · rename_i l1 e1
    obtain ⟨a, ox, od, rfl, J, _⟩ := inst_of I hc rm qx e1
    obtain rfl : v = Value.ref a := rx
    obtain ⟨mm, hF⟩ := I.fr
    obtain ⟨⟨fd, h1, h2, _⟩, h3⟩ := h
    obtain ⟨ds, dv, bb⟩ := h2 0 (Nat.zero_le _)
    exact PySem.W.ksp_neg hF I.ok.mod.kin J hme.at_ hme.fn (run_meth (us := []) (vs := []) h1 hr tk bb ⟨dv, fun _ _ => .nil⟩ qx I .nil (Ext.refl m) rm .nil hp)
  · exact hb pins s σ m st x xv v Q I rx rm qx hp
theorem UnS.inv (h : DefOk X.prog X.w X.K X.mg X.base k g ps [] F) (hr : Room k X.A) (tk : Takes X W.w) (hc : X.mg (cName c) = some (.ref C)) (hme : Meth X.K C "__invert__" g) (hb : UnS X W (unaryOp .Invert) base1) : UnS X W (unaryOp .Invert) (uOwn c F ps.length base1) := by
  intro pins s σ m st x xv v Q I rx rm qx hp
  unfold uOwn at hp
  split at hp
  · rename_i l1 e1
    obtain ⟨a, ox, od, rfl, J, _⟩ := inst_of I hc rm qx e1
    obtain rfl : v = Value.ref a := rx
    obtain ⟨mm, hF⟩ := I.fr
    obtain ⟨⟨fd, h1, h2, _⟩, h3⟩ := h
    obtain ⟨ds, dv, bb⟩ := h2 0 (Nat.zero_le _)
    exact PySem.W.ksp_inv hF I.ok.mod.kin J hme.at_ hme.fn (run_meth (us := []) (vs := []) h1 hr tk bb ⟨dv, fun _ _ => .nil⟩ qx I .nil (Ext.refl m) rm .nil hp)
  · exact hb pins s σ m st x xv v Q I rx rm qx hp
end
end Sh
/-! Part L: calls with keywords. -/
namespace Sh
open PySem L2 He
/-- positional values, defaults and keywords' values, put into the parameters' order -/
def pick {α : Type} (arr : List (Nat × Nat)) (us its ws : List α) : List α := arr.filterMap fun p => match p.1 with
  | 0 => us[p.2]?
  | 1 => its[p.2]?
  | _ => ws[p.2]?
theorem vals_get : ∀ {vs : List V} {us : List Value} (i : Nat), Vals vs us → (vs[i]? = none ∧ us[i]? = none) ∨ ∃ v u, vs[i]? = some v ∧ us[i]? = some u ∧ RelV v u
  | _, _, i, .nil => .inl ⟨by simp, by simp⟩
  | _, _, 0, .cons h _ => .inr ⟨_, _, rfl, rfl, h⟩
  | _, _, i + 1, .cons _ h => by simpa using vals_get i h
theorem pick_vals {vs ds zs : List V} {us its ws : List Value} (h1 : Vals vs us) (h2 : Vals ds its) (h3 : Vals zs ws) : ∀ arr : List (Nat × Nat), Vals (pick arr vs ds zs) (pick arr us its ws)
  | [] => .nil
  | p :: arr => by
    have ih := pick_vals h1 h2 h3 arr
    unfold pick at ih ⊢
    rw [List.filterMap_cons, List.filterMap_cons]
    obtain ⟨a, i⟩ := p
    match a with
    | 0 =>
      dsimp only
      rcases vals_get i h1 with ⟨e1, e2⟩ | ⟨v, u, e1, e2, r⟩
      · rw [e1, e2]; exact ih
      · rw [e1, e2]; exact .cons r ih
    | 1 =>
      dsimp only
      rcases vals_get i h2 with ⟨e1, e2⟩ | ⟨v, u, e1, e2, r⟩
      · rw [e1, e2]; exact ih
      · rw [e1, e2]; exact .cons r ih
    | _ + 2 =>
      dsimp only
      rcases vals_get i h3 with ⟨e1, e2⟩ | ⟨v, u, e1, e2, r⟩
      · rw [e1, e2]; exact ih
      · rw [e1, e2]; exact .cons r ih
theorem reps_get {K : PySem.W.Frag} {mg : Str → Option Value} {r : List Addr} {G : Hp} : ∀ {ds : List D} {vs : List V} (i : Nat), Reps K mg r G ds vs → (ds[i]? = none ∧ vs[i]? = none) ∨ ∃ d v, ds[i]? = some d ∧ vs[i]? = some v ∧ Rep K mg r G d v
  | [], _, i, h => by cases h; exact .inl ⟨by simp, by simp⟩
  | d :: l, _, 0, h => by cases h with | cons h1 h2 => exact .inr ⟨_, _, rfl, rfl, h1⟩
  | d :: l, _, i + 1, h => by cases h with | cons h1 h2 => simpa using reps_get i h2
theorem pick_reps {K : PySem.W.Frag} {mg : Str → Option Value} {r : List Addr} {G : Hp} {vs ds zs : List D} {us its ws : List V} (h1 : Reps K mg r G vs us) (h2 : Reps K mg r G ds its) (h3 : Reps K mg r G zs ws) : ∀ arr : List (Nat × Nat), Reps K mg r G (pick arr vs ds zs) (pick arr us its ws)
  | [] => .nil
  | p :: arr => by
    have ih := pick_reps h1 h2 h3 arr
    unfold pick at ih ⊢
    rw [List.filterMap_cons, List.filterMap_cons]
    obtain ⟨a, i⟩ := p
    match a with
    | 0 =>
      dsimp only
      rcases reps_get i h1 with ⟨e1, e2⟩ | ⟨v, u, e1, e2, r⟩
      · rw [e1, e2]; exact ih
      · rw [e1, e2]; exact .cons r ih
    | 1 =>
      dsimp only
      rcases reps_get i h2 with ⟨e1, e2⟩ | ⟨v, u, e1, e2, r⟩
      · rw [e1, e2]; exact ih
      · rw [e1, e2]; exact .cons r ih
    | _ + 2 =>
      dsimp only
      rcases reps_get i h3 with ⟨e1, e2⟩ | ⟨v, u, e1, e2, r⟩
      · rw [e1, e2]; exact ih
      · rw [e1, e2]; exact .cons r ih
structure KB (K : PySem.W.Frag) (fd : FuncData) (ps : List Str) (n : Nat) (ks : List Str) (arr : List (Nat × Nat)) (its : List Value) : Prop where
  to : ∀ (s : Shared) (us ws : List Value), K.In s.heap → us.length = n → ws.length = ks.length → BindsTo s fd ⟨us, ks.zip ws⟩ (ps.zip (pick arr us its ws))
/-- a def called with n positional values and the keywords ks -/
def DefKw (P : Program) (w : World) (K : PySem.W.Frag) (mg : Str → Option Value) (base : Heap) (k : Nat) (f : Addr) (ps : List Str) (dvs : List V) (F : FF) (n : Nat) (ks : List Str) (arr : List (Nat × Nat)) : Prop :=
  ∃ fd its, FnOk P w K mg base (L2.CX P w) k f fd ps (spF K mg ps.length F) ∧ Vals dvs its ∧ KB K fd ps n ks arr its ∧ PySem.W.keepIn K (.ref f) = true
section
variable {P : Program} {w : World} {K : PySem.W.Frag} {mg : Str → Option Value} {base : Heap} {x qual : Str} {params : Arguments} {body : List Stmt} {scope : Scope} {f : Addr} {ps ks : List Str} {k n : Nat} {arr : List (Nat × Nat)} {dvs : List V} {F : FF}
theorem DefOk.kw (h : DefOk P w K mg base k f ps [] F) (FD : ∃ fd, FunD K x qual params body scope [] [] f fd)
    (hb : ∀ (kV doc pm : Value) (an : Option Addr) (cdv ct : Value) (us ws : List Value), us.length = n → ws.length = ks.length → bindArgs (PySem.W.fnOf x qual params body scope .none kV doc pm an cdv ct) ⟨us, ks.zip ws⟩ = pure (ps.zip (pick arr us [] ws))) :
    DefKw P w K mg base k f ps [] F n ks arr := by
  obtain ⟨⟨fd, h1, _, oc, od, osl, lk⟩, h3⟩ := h
  obtain ⟨fd2, FD⟩ := FD
  obtain ⟨oc2, od2, dV, kV, doc, pm, an, cdv, ct, osl2, e, lk2, _, hD, _⟩ := FD.ex
  rw [lk] at lk2
  cases Option.some.inj lk2
  refine ⟨_, [], h1, .nil, ⟨fun s us ws X l1 l2 => ?_⟩, h3⟩
  rcases hD with ⟨_, rfl⟩ | ⟨z, _⟩
  · subst e
    exact .of_eq (hb kV doc pm an cdv ct us ws l1 l2)
  · exact absurd rfl z
theorem DefOk.kwD (h : DefOk P w K mg base k f ps dvs F) (FD : ∃ fd, FunD K x qual params body scope dvs [] f fd) (hd : dvs ≠ [])
    (hb : ∀ (T : Addr) (kV doc pm : Value) (an : Option Addr) (cdv ct : Value) (us its ws : List Value), us.length = n → its.length = dvs.length → ws.length = ks.length →
      ∃ k, bindArgs (PySem.W.fnOf x qual params body scope (.ref T) kV doc pm an cdv ct) ⟨us, ks.zip ws⟩ = seqItems? (.ref T) >>= k ∧ k (some its.toArray) = pure (ps.zip (pick arr us its ws))) :
    DefKw P w K mg base k f ps dvs F n ks arr := by
  obtain ⟨⟨fd, h1, _, oc, od, osl, lk⟩, h3⟩ := h
  obtain ⟨fd2, FD⟩ := FD
  obtain ⟨oc2, od2, dV, kV, doc, pm, an, cdv, ct, osl2, e, lk2, _, hD, _⟩ := FD.ex
  rw [lk] at lk2
  cases Option.some.inj lk2
  rcases hD with ⟨z, _⟩ | ⟨_, T, o, its, m, rfl, lT, oT, rT⟩
  · exact absurd z hd
  · refine ⟨_, its, h1, rT, ⟨fun s us ws X l1 l2 => ?_⟩, h3⟩
    subst e
    obtain ⟨k, e1, e2⟩ := hb T kV doc pm an cdv ct us its ws l1 rT.length.symm l2
    refine BindsTo.of_looks fun M => ?_
    rw [e1]
    exact looks_items X lT oT (.of_pure e2)
end
def cK (F : FF) (n np nk : Nat) (arr : List (Nat × Nat)) (dds : List D) (l z : List D) (st : Sto) : Res D :=
  if l.length = np ∧ z.length = nk ∧ (pick arr l dds z).length = n then F (pick arr l dds z) st else .bad
@[simp] def fCallK (sem : List D → List D → Sto → Res D) (g gk : AF) : EF := fun sg st => (g sg st).bind fun l st1 => (gk sg st1).bind fun z st2 => sem l z st2
def SK (X : Cx) (W : We) (kws : List Keyword) (g : AF) : Prop := PK X kws (TOf X.K X.mg W (RDs X.K X.mg) g)
section
variable {X : Cx} {W : We} {e o : Expr} {es : List Expr} {kws : List Keyword} {fo fe : EF} {g gk : AF} {pos p apos kpos : Pos} {x m : Str} {k np : Nat} {fa C : Addr} {ps ks : List Str} {dvs : List V} {dds : List D} {F : FF} {arr : List (Nat × Nat)} {nm : Option Str}
theorem sk_nil : SK X W [] aNil := ⟨fun pos pins s σ H Q I ⟨m, sg, st, e, rm, rs, hp⟩ => pk_nil.run pos pins s σ H Q I (by subst e; exact hp.okc rm .nil)⟩
theorem sk_cons (ha : SE X W e fe) (hr : SK X W kws gk) : SK X W (⟨nm, e, kpos⟩ :: kws) (aCons fe gk) :=
  ⟨fun pos pins s σ H Q I ⟨m, sg, st, e, rm, rs, hp⟩ => (pk_cons ha hr).run pos pins s σ H Q I ⟨m, sg, st, e, rm, rs, hp.bindc fun m1 x v st1 e1 r1 q1 hp1 => ⟨m1, sg, st1, rfl, r1, rs.mono e1, hp1.bindc fun m2 l vs st2 e2 r2 q2 hp2 => hp2.okc r2 (.cons (q1.mono e2) q2)⟩⟩⟩
theorem run_kw {σ : St} {Q : VK} {pins : List (Addr × Obj)} {us ws : List Value} {s2 : Shared} {m2 : Hw} {l z : List D} {vs zs : List V} {st2 : Sto} (h : DefKw X.prog X.w X.K X.mg X.base k fa ps dvs F np ks arr) (hd : ∀ r G, Reps X.K X.mg r G dds dvs) (hr : Room k X.A) (tk : Takes X W.w)
    (I2 : Inv X pins σ m2.h s2) (rv : Vals vs us) (rz : Vals zs ws) (r2 : Rel X.K X.mg m2 st2) (q2 : Reps X.K X.mg m2.r m2.g l vs) (qz : Reps X.K X.mg m2.r m2.g z zs) (hp2 : Post X.K X.mg W.w m2 σ (RD X.K X.mg) Q (cK F ps.length np ks.length arr dds l z st2)) :
    wpAny (model X.prog X.w) X.A (call (.ref fa) us (ks.zip ws)) (EP X pins σ Q) X.xe s2 := by
  obtain ⟨fd, its, hF, hv, hb, _⟩ := h
  unfold cK at hp2
  split at hp2
  · rename_i hl
    obtain ⟨l1, l2, l3⟩ := hl
    refine wpAny_call (codeAny_mono (hF.run X.A X.stack s2 m2.h ⟨us, ks.zip ws⟩ (pick arr us its ws) (pick arr vs dvs zs) Q (WE W.w σ) hr I2.env0 (hb.to s2 us ws I2.kIn (by rw [← rv.length, ← q2.length]; exact l1) (by rw [← rz.length, ← qz.length]; exact l2)) (pick_vals rv hv rz arr)
      ⟨m2, _, st2, rfl, r2, pick_reps q2 (hd _ _) qz arr, l3, hp2.conv⟩) fun r s' hq => ?_)
    cases r with
    | error e => exact passAt tk σ pins _ _ e s' I2 hq
    | ok fl =>
      cases fl with
      | ret u => exact I2.after hq
      | next => exact False.elim hq
      | brk => exact False.elim hq
      | cont => exact False.elim hq
  · exact False.elim hp2
theorem se_callK (h : DefKw X.prog X.w X.K X.mg X.base k fa ps dvs F np ks arr) (hd : ∀ r G, Reps X.K X.mg r G dds dvs) (hr : Room k X.A) (tk : Takes X W.w) (hg : Gl X x) (hm : X.mg x = some (.ref fa)) (ha : SA X W (e :: es) g) (hk : SK X W kws gk)
    (hall : (backToKw pos (keywordEach kws X.env)).all (·.1.isSome) = true := by rfl) (hks : (backToKw pos (keywordEach kws X.env)).filterMap (·.1) = ks := by rfl)
    (hdb : (x == ("__debug__" : Str)) = false := by decide) (he : starEach (e :: es) X.env = (false, eval e X.env) :: starEach es X.env := by rfl)
    (hpl : ((backTo pos (starEach (e :: es) X.env)).any (·.1) || (backToKw pos (keywordEach kws X.env)).any (·.1.isNone)) = false := by rfl) :
    SE X W (.Call (.Name x p) (e :: es) kws pos) (fCallK (cK F ps.length np ks.length arr dds) g gk) := by
  refine ⟨fun pins s σ H Q I ht => ?_⟩
  obtain ⟨w, sg, st, rfl, rm, rs, hp⟩ := ht
  have hkp := h
  obtain ⟨_, _, _, _, _, hkp⟩ := hkp
  refine wpAny_Call_Name_kw (ld_glob I hg hm ?_ hdb)
  refine PySem.W.callWith_KW (h₀ := X.base) I.ok.mod.kin hkp hall (thn (ha.run pos pins s σ w.h (fun vs H2 => ∃ m2 l st2, m2.h = H2 ∧ Rel X.K X.mg m2 st2 ∧ SgRep X.K X.mg W.e m2 sg σ ∧ Reps X.K X.mg m2.r m2.g l vs ∧ Post X.K X.mg W.w m2 σ (RD X.K X.mg) Q ((gk sg st2).bind fun z st3 => cK F ps.length np ks.length arr dds l z st3)) I
    ⟨w, sg, st, rfl, rm, rs, hp.bindc fun m2 l vs st2 e2 r2 q2 hp2 => ⟨m2, l, st2, rfl, r2, rs.mono e2, q2, hp2⟩⟩) fun us s1 hz => ?_) hpl he
  obtain ⟨vs, H2, I2, rv, m2, l, st2, rfl, r2, rs2, q2, hp2⟩ := hz
  refine thn (hk.run pos pins s1 σ m2.h (fun zs H3 => ∃ m3 z st3, m3.h = H3 ∧ Ext m2 m3 ∧ Rel X.K X.mg m3 st3 ∧ Reps X.K X.mg m3.r m3.g z zs ∧ Post X.K X.mg W.w m3 σ (RD X.K X.mg) Q (cK F ps.length np ks.length arr dds l z st3)) I2
    ⟨m2, sg, st2, rfl, r2, rs2, hp2.bindc fun m3 z zs st3 e3 r3 q3 hp3 => ⟨m3, z, st3, rfl, e3, r3, q3, hp3⟩⟩) fun ws s2 hz => ?_
  obtain ⟨zs, H3, I3, rz, m3, z, st3, rfl, e3, r3, q3, hp3⟩ := hz
  refine ⟨I3.kIn, ?_⟩
  rw [hks]
  exact run_kw h hd hr tk I3 rv rz r3 (q2.mono e3) q3 hp3
theorem se_callK0 (h : DefKw X.prog X.w X.K X.mg X.base k fa ps dvs F np ks arr) (hd : ∀ r G, Reps X.K X.mg r G dds dvs) (hr : Room k X.A) (tk : Takes X W.w) (hg : Gl X x) (hm : X.mg x = some (.ref fa)) (hk : SK X W kws gk)
    (hall : (backToKw pos (keywordEach kws X.env)).all (·.1.isSome) = true := by rfl) (hks : (backToKw pos (keywordEach kws X.env)).filterMap (·.1) = ks := by rfl)
    (hdb : (x == ("__debug__" : Str)) = false := by decide)
    (hpl : ((backTo pos (starEach [] X.env)).any (·.1) || (backToKw pos (keywordEach kws X.env)).any (·.1.isNone)) = false := by rfl) :
    SE X W (.Call (.Name x p) [] kws pos) (fCallK (cK F ps.length np ks.length arr dds) aNil gk) := by
  refine ⟨fun pins s σ H Q I ht => ?_⟩
  obtain ⟨w, sg, st, rfl, rm, rs, hp⟩ := ht
  have hkp := h
  obtain ⟨_, _, _, _, _, hkp⟩ := hkp
  refine wpAny_Call_Name_kw (ld_glob I hg hm ?_ hdb)
  refine PySem.W.callWith_KW0 (h₀ := X.base) I.ok.mod.kin hkp hall (thn (hk.run pos pins s σ w.h (fun zs H3 => ∃ m3 z st3, m3.h = H3 ∧ Rel X.K X.mg m3 st3 ∧ Reps X.K X.mg m3.r m3.g z zs ∧ Post X.K X.mg W.w m3 σ (RD X.K X.mg) Q (cK F ps.length np ks.length arr dds [] z st3)) I
    ⟨w, sg, st, rfl, rm, rs, Post.bindc (x := gk sg st) hp fun m3 z zs st3 e3 r3 q3 hp3 => ⟨m3, z, st3, rfl, r3, q3, hp3⟩⟩) fun ws s2 hz => ?_) hpl
  obtain ⟨zs, H3, I3, rz, m3, z, st3, rfl, r3, q3, hp3⟩ := hz
  refine ⟨I3.kIn, ?_⟩
  rw [hks]
  exact run_kw (us := []) h hd hr tk I3 .nil rz r3 .nil q3 hp3
/-- o.m(k = v, ..) -/
@[simp] def fMethK (c : Nat) (sem : List D → List D → Sto → Res D) (fo : EF) (gk : AF) : EF := fun sg st => (fo sg st).bind fun x st1 => match insOf c x st1 with
  | some _ => (gk sg st1).bind fun z st2 => sem [x] z st2
  | none => .bad
theorem se_methK {c : Nat} {pl : Sem Bool} (h : DefKw X.prog X.w X.K X.mg X.base k fa ps dvs F np ks arr) (hd : ∀ r G, Reps X.K X.mg r G dds dvs) (hr : Room k X.A) (tk : Takes X W.w) (hc : X.mg (cName c) = some (.ref C)) (cl : Cls X.K C) (hme : Meth X.K C m fa) (hnf : m ∉ cFlds c)
    (ho : SE X W o fo) (hk : SK X W kws gk)
    (hall : (backToKw pos (keywordEach kws X.env)).all (·.1.isSome) = true := by rfl) (hks : (backToKw pos (keywordEach kws X.env)).filterMap (·.1) = ks := by rfl)
    (hpl : ((backTo pos (starEach [] X.env)).any (·.1) || (backToKw pos (keywordEach kws X.env)).any (·.1.isNone)) = false := by rfl)
    (ht : eval (.Call (.Attribute o m apos) [] kws pos) X.env = (do
      let ov ← eval o X.env
      standAt apos.atName
      let (f, first) ← holding [ov] (getMethod ov m pl)
      callWith pos f first (backTo pos (starEach [] X.env)) (backToKw pos (keywordEach kws X.env))) := by rfl) :
    SE X W (.Call (.Attribute o m apos) [] kws pos) (fMethK c (cK F ps.length np ks.length arr dds) fo gk) := by
  refine ⟨fun pins s σ H Q I hq => ?_⟩
  obtain ⟨w, sg, st, rfl, rm, rs, hp⟩ := hq
  refine PySem.W.methodCall_KW (pl := pl) (thn (ho.run pins s σ w.h (MPost X W σ sg Q fun x st1 => match insOf c x st1 with
    | some _ => (gk sg st1).bind fun z st2 => cK F ps.length np ks.length arr dds [x] z st2
    | none => .bad) I ⟨w, sg, st, rfl, rm, rs, hp.bindc fun m1 x v st1 e1 r1 q1 hp1 => ⟨m1, x, st1, rfl, r1, rs.mono e1, q1, hp1⟩⟩) fun u s1 hh => ?_) ht
  obtain ⟨v, H1, I1, rv, m1, x, st1, rfl, r1, rs1, q1, hp1⟩ := hh
  dsimp only at hp1
  split at hp1
  · rename_i l0 hl0
    obtain ⟨a, dx, fs, rfl, h1, h2, h3⟩ := ins_of r1 q1 hl0 hc
    obtain rfl : u = Value.ref a := rv
    refine getmeth_ok I1 h1 cl hme (lookup_none h2 fun z => hnf (List.mem_of_mem_take z)) ?_
    refine PySem.W.callWith_KW0 (first := [.ref a]) (h₀ := X.base) I1.ok.mod.kin hme.kp hall (thn (hk.run pos pins s1 σ m1.h (fun zs H3 => ∃ m3 z st3, m3.h = H3 ∧ Ext m1 m3 ∧ Rel X.K X.mg m3 st3 ∧ Reps X.K X.mg m3.r m3.g z zs ∧ Post X.K X.mg W.w m3 σ (RD X.K X.mg) Q (cK F ps.length np ks.length arr dds [x] z st3)) I1
      ⟨m1, sg, st1, rfl, r1, rs1, Post.bindc (x := gk sg st1) hp1 fun m3 z zs st3 e3 r3 q3 hp3 => ⟨m3, z, st3, rfl, e3, r3, q3, hp3⟩⟩) fun ws s2 hz => ?_) hpl
    obtain ⟨zs, H3, I3, rz, m3, z, st3, rfl, e3, r3, q3, hp3⟩ := hz
    refine ⟨I3.kIn, ?_⟩
    rw [hks]
    exact run_kw (us := [.ref a]) (vs := [.ref a]) h hd hr tk I3 (.cons rfl .nil) rz r3 (.one (q1.mono e3)) q3 hp3
  · exact False.elim hp1
end
/-! facts of classes with own operators -/
theorem takesF {X : Cx} {W : We} : Takes X (WF W).w := fun u s' ⟨a, B, sI, pins, σ, H, cls, d, e, I, nb, up, sky, na, os, ag, w⟩ => w.elim
def bSelf (x : Str) (K : PySem.W.Frag) : Bool := PySem.W.selfFirst K (ga K x)
def bOpN (x : Str) (nm : String) (K : PySem.W.Frag) : Bool := decide (PySem.W.findIn K (.ref (ga K x)) (dunderR nm) = some none) && (PySem.W.findIn K (.type "int") (PySem.dunder nm)).isSome && (PySem.W.findIn K (.type "int") (dunderR nm)).isSome && decide (PySem.W.subIn K (.type "int") (.ref (ga K x)) = some false)
theorem self_ok {K : PySem.W.Frag} {x : Str} (h : bSelf x K = true) : PySem.W.selfFirst K (ga K x) = true := h
theorem opN_ok {K : PySem.W.Frag} {x : Str} {nm : String} (h : bOpN x nm K = true) : OpN K (ga K x) nm := by
  unfold bOpN at h
  simp only [Bool.and_eq_true, decide_eq_true_eq] at h
  obtain ⟨⟨⟨h1, h2⟩, h3⟩, h4⟩ := h
  exact ⟨⟨_, h1, .inl rfl⟩, Option.isSome_iff_exists.mp h2, Option.isSome_iff_exists.mp h3, h4⟩
end Sh
/-! Part M: == and != by an own __eq__, own __call__, methods of lists. -/
namespace Sh
open PySem L2 He
section
variable {X : Cx} {W : We} {a b : Expr} {fa fb : EF} {pos : Pos} {sem base : D → D → Sto → Res D} {k c : Nat} {g C : Addr} {F : FF} {ps : List Str}
theorem looks_ty {M : Model} {h : Heap} {a : Addr} {o : Obj} {t : Value} (e : h.get? a = some o) (hc : o.cls = t) : PySem.W.Looks M h (typeOf (.ref a)) t := fun A Q E s k q => wpAny_typeOf_ref (k _ _ e) (hc ▸ q)
/-- the type of a value that is no instance -/
theorem ty_val {pins : List (Addr × Obj)} {s : Shared} {σ : St} {m : Hw} {st : Sto} {y : D} {v : V} {u : Value} {t : String} (I : Inv X pins σ m.h s) (rm : Rel X.K X.mg m st) (q : Rep X.K X.mg m.r m.g y v) (ru : RelV v u) (e : tyD y st = some t) (hd : t ≠ "dict") :
    PySem.W.Looks (model X.prog X.w) s.heap (typeOf u) (.type t) := by
  unfold tyD at e
  split at e
  · cases q; cases e; cases (show u = Value.none from ru); exact .of_pure rfl
  · cases q; cases e; cases (show u = Value.bool _ from ru); exact .of_pure rfl
  · cases q; cases e; obtain ⟨t, rfl⟩ := (show ∃ t, u = Value.int _ t from ru); exact .of_pure rfl
  · cases q; cases e; obtain ⟨t, rfl⟩ := (show ∃ t, u = Value.str _ t from ru); exact .of_pure rfl
  · cases e
    cases q with
    | tup h1 h2 =>
      obtain rfl : u = Value.ref _ := ru
      obtain ⟨its, _, ⟨o, ho, hc, _⟩, _⟩ := I.tuple (sqT_mono rm.sub h1)
      exact looks_ty ho hc
  · cases e
    cases q with
    | lst h1 h2 =>
      obtain rfl : u = Value.ref _ := ru
      obtain ⟨_, its, n, _, _, ho⟩ := I.lstM (rm.sub _ _ h1)
      exact looks_ty ho rfl
  · cases e; exact absurd rfl hd
  · cases q with
    | loc h1 =>
      split at e
      · rename_i l h2
        cases e
        obtain ⟨vs, h3, _⟩ := rm.obj _ _ _ h1 h2
        obtain rfl : u = Value.ref _ := ru
        obtain ⟨_, its, n, _, _, ho⟩ := I.lstM h3
        exact looks_ty ho rfl
      · cases e; exact absurd rfl hd
      · cases e
  · cases e
/-- the types that an own == meets -/
def eqTys : List String := ["NoneType", "bool", "int", "str", "tuple", "list"]
def okEq (c : Nat) (y : D) (st : Sto) : Bool := (insOf c y st).isSome || (match tyD y st with
  | some t => eqTys.contains t
  | none => false)
def dOwnE (c : Nat) (F : FF) (n : Nat) (base : D → D → Sto → Res D) : D → D → Sto → Res D := fun x y st => match insOf c x st with
  | some _ => if okEq c y st = true then cF F n [] [x, y] st else .bad
  | none => base x y st
theorem looks_eq {pins : List (Addr × Obj)} {s : Shared} {σ : St} {m : Hw} {st : Sto} {y : D} {v : V} {u : Value} (I : Inv X pins σ m.h s) (hc : X.mg (cName c) = some (.ref C)) (nt : ∀ t ∈ eqTys, PySem.W.subIn X.K (.type t) (.ref C) = some false) (rm : Rel X.K X.mg m st) (q : Rep X.K X.mg m.r m.g y v) (ru : RelV v u)
    (e : okEq c y st = true) : ∃ tb, PySem.W.Looks (model X.prog X.w) s.heap (typeOf u) tb ∧ PySem.W.notFirst X.K C tb = true := by
  unfold okEq at e
  rcases Bool.or_eq_true_iff.mp e with e | e
  · obtain ⟨l, hl⟩ := Option.isSome_iff_exists.mp e
    obtain ⟨a, ox, od, rfl, J, _⟩ := inst_of I hc rm q hl
    obtain rfl : u = Value.ref a := ru
    exact ⟨_, J.type, by unfold PySem.W.notFirst; simp⟩
  · split at e
    · rename_i t ht
      have hm : t ∈ eqTys := List.contains_iff_mem.mp e
      refine ⟨_, ty_val I rm q ru ht (fun z => by subst z; simp [eqTys] at hm), ?_⟩
      unfold PySem.W.notFirst
      rw [nt t hm]
      simp
    · cases e
theorem BinS.ownE (h : DefOk X.prog X.w X.K X.mg X.base k g ps [] F) (hr : Room k X.A) (tk : Takes X W.w) (hc : X.mg (cName c) = some (.ref C)) (hme : Meth X.K C "__eq__" g) (nt : ∀ t ∈ eqTys, PySem.W.subIn X.K (.type t) (.ref C) = some false) (hb : BinS X W (compareOp .Eq) base) :
    BinS X W (compareOp .Eq) (dOwnE c F ps.length base) := by
  intro pins s σ m st x y xv yv v u Q I rx ry rm qx qy hp
  unfold dOwnE at hp
  split at hp
  · rename_i l1 e1
    split at hp
    · rename_i ho
      obtain ⟨a, ox, od, rfl, J, _⟩ := inst_of I hc rm qx e1
      obtain rfl : v = Value.ref a := rx
      obtain ⟨tb, L, hn⟩ := looks_eq I hc nt rm qy ry ho
      obtain ⟨mm, hF⟩ := I.fr
      obtain ⟨⟨fd, h1, h2, _⟩, h3⟩ := h
      obtain ⟨ds, dv, bb⟩ := h2 0 (Nat.zero_le _)
      show wpAny _ _ (richCompare .Eq (.ref a) u) _ _ _
      refine PySem.W.cmp_K (op := .Eq) (tb := tb) hr.units0 hF I.ok.mod.kin J L hn hme.at_ hme.fn (wpAny_mono (run_meth (us := [u]) (vs := [yv]) h1 hr tk bb ⟨dv, fun _ _ => .nil⟩ qx I (.cons ry .nil) (Ext.refl m) rm (.one qy) hp) (fun w' s' z => ?_) fun _ _ z => z)
      obtain ⟨z', H', I', rz, qz⟩ := z
      exact SlX.cmpback rz ⟨z', H', I', rz, qz⟩
    · exact False.elim hp
  · exact hb pins s σ m st x y xv yv v u Q I rx ry rm qx qy hp
end
/-! != of a class with its own == only -/
section
open PySem.W PyProof.Rows
variable {prog : Program} {w : World} {A : Around} {E : Value → Shared → Prop} {s : Shared} {K : Frag} {x C L f : Addr} {h₀ : Heap} {m : Str → Option Value} {ox : Obj} {od : Option Obj} {b tb : Value}
theorem ne_body {Q : Fin → Shared → Prop} (hu : A.units < cLine) (X : K.In s.heap) (I : InstAt s.heap x ox C od) (hs : findIn K (.ref C) "__eq__" = some (some (.ref f))) (hf : isFn K (.ref f) = true)
    (h : wpAny (model prog w) A (call (.ref f) [.ref x, b]) (fun v s' => ∃ c, v = .bool c ∧ Q (.done (.ret (.bool (!c)))) s') E s) : wpAny (model prog w) A (Builtin.«object.__ne__» ⟨[.ref x, b], []⟩) Q E s := by
  unfold Builtin.«object.__ne__»
  repeat (first
    | with_reducible refine wpAny_cRoomFor hu ?_
    | (refine wpAny_bind (m := callSpecialIfBound? (.ref x) (Str.ofString "__eq__") [b])
        (ifBound_K X I hs hf (wpAny_mono h (fun r s' hr => by
          obtain ⟨b, rfl, hq⟩ := hr
          repeat (first | exact hq | exact wpAny_pure hq | exact wpAny_truthy_bool hq | (refine wpAny_bind (m := truthy (.bool _)) (wpAny_truthy_bool ?_)) | wp_step)) fun _ _ e => e)))
    | wp_step)
theorem ne_check {M : Model} {Q : Unit → Shared → Prop} (X : K.In s.heap) (I : InstAt s.heap x ox C od) (hso : subIn K (.ref C) (.type "object") = some true) (hq : Q () s) : wpAny M A (checkBuiltinCall "object.__ne__" ⟨[.ref x, b], []⟩) Q E s := by
  have ha := PySem.F.cmpArgs_ne (.ref x) b
  simp only [checkBuiltinCall, PySem.F.cmpKind_ne, PySem.F.cmpSplit_ne]
  refine wpAny_bind ?_
  unfold isInstance
  refine wpAny_bind (I.type.here ((looks_subIn X hso).here ?_))
  cases hsig : Manifest.signature? "object.__ne__" with
  | none => exact wpAny_pure hq
  | some sig =>
    simp only [argsOk, hsig] at ha
    have h2 : Bind.checkArgs "object.__ne__" sig ⟨[.ref x, b], []⟩ = pure () := ha
    show wpAny M A (Bind.checkArgs "object.__ne__" sig ⟨[.ref x, b], []⟩) Q E _
    rw [h2]; exact wpAny_pure hq
theorem ne_viaEq {Q : Value → Shared → Prop} (hu : A.units + 1 < cLine) (F : Fr h₀ L s.heap m) (X₀ : K.In h₀) (I : InstAt s.heap x ox C od) (hb : Looks (model prog w) s.heap (typeOf b) tb) (hn : notFirst K C tb = true)
    (hne : findIn K (.ref C) "__ne__" = some (some (.builtin "object.__ne__"))) (hso : subIn K (.ref C) (.type "object") = some true) (hs : findIn K (.ref C) "__eq__" = some (some (.ref f))) (hf : isFn K (.ref f) = true)
    (h : wpAny (model prog w) A.in1 (call (.ref f) [.ref x, b]) (fun v s' => ∃ c, v = .bool c ∧ Q (.bool (!c)) s') E s) : wpAny (model prog w) A (richCompare .NotEq (.ref x) b) Q E s := by
  have X := X₀.keeps F.keep
  have S := PySem.F.cmp_object.ne
  have one : wpAny (model prog w) A (tryCompare (.ref x) (cmpInfo .NotEq).2.1 b) (fun r s' => ∃ v, r = some v ∧ Q v s') E s := by
    unfold tryCompare
    refine wpAny_bind ?_
    simp only [callSpecialIfBound?, bindSpecialIfBound?]
    refine wpAny_holding (wpAny_bind (wpAny_bind (wpAny_bind (I.type.here ((looks_findIn X hne).here ?_)))))
    simp only [S.bind]
    have fin : ∀ {Q' : Option Value → Shared → Prop}, (∀ v s', (∃ c, v = .bool c ∧ Q (.bool c) s') → Q' (some v) s') → wpAny (model prog w) A (call (.builtin "object.__ne__") ([.ref x] ++ [b]) >>= fun v => pure (some v)) Q' E s := fun {Q'} hq => by
      refine wpAny_bind (wpAny_mono (Q := fun v s' => ∃ c, v = .bool c ∧ Q (.bool c) s') (wpAny_call (codeAny_call_builtin S.plain PySem.F.cmpEntry_ne (ne_check X I hso (ne_body (A := A.in1) hu X I hs hf (wpAny_mono h (fun v s' hv => ?_) fun _ _ e => e))))) (fun v s' z => wpAny_pure (hq v s' z)) fun _ _ e => e)
      obtain ⟨c, rfl, hq'⟩ := hv
      exact ⟨c, rfl, ⟨_, rfl, hq'⟩⟩
    have last : ∀ v s', (∃ c, v = Value.bool c ∧ Q (.bool c) s') → wpAny (model prog w) A (match some v with
        | some .notImplemented | none => pure none
        | some v => pure (some v)) (fun r s' => ∃ v, r = some v ∧ Q v s') E s' := fun v s' ⟨c, e, q⟩ => by
      subst e
      exact wpAny_pure ⟨_, rfl, q⟩
    refine wpAny_bind (wpAny_askSetting (wpAny_ite ?_))
    split
    · exact wpAny_bind (wpAny_pure (wpAny_pure (fin last)))
    · exact wpAny_tryCatch (wpAny_bind (wpAny_pure (wpAny_pure (fin last))))
  unfold richCompare
  simp only [oneThing_ref]
  refine wpAny_holding (wpAny_bind (wpAny_cRoomFor (Nat.lt_of_succ_lt hu) ?_))
  refine wpAny_bind (I.type.here (wpAny_bind (hb.here ?_)))
  split
  · rename_i q
    have e : subIn K tb (.ref C) = some false := by
      rcases Bool.or_eq_true_iff.mp hn with e | e
      · rw [beq_iff_eq.mp e] at q; simp at q
      · exact beq_iff_eq.mp e
    refine wpAny_bind ((looks_subIn X e).here ?_)
    simp only [Bool.false_eq_true, if_false]
    refine wpAny_bind (wpAny_mono one (fun r s' z => ?_) fun _ _ e => e)
    obtain ⟨v, rfl, hq⟩ := z
    exact wpAny_pure hq
  · refine wpAny_bind (wpAny_pure ?_)
    simp only [Bool.false_eq_true, if_false]
    refine wpAny_bind (wpAny_mono one (fun r s' z => ?_) fun _ _ e => e)
    obtain ⟨v, rfl, hq⟩ := z
    exact wpAny_pure hq
end
section
variable {X : Cx} {W : We} {a b e o : Expr} {es : List Expr} {fa fb fo : EF} {ga gk : AF} {pos apos : Pos} {sem base : D → D → Sto → Res D} {k c np : Nat} {g C : Addr} {F : FF} {ps ks : List Str} {dvs : List V} {dds : List D} {arr : List (Nat × Nat)} {kws : List Keyword}
def dNotB (d : D) (st : Sto) : Res D := match d with
  | .bl b => .ok (.bl !b) st
  | _ => .bad
def dOwnNe (c : Nat) (F : FF) (n : Nat) (base : D → D → Sto → Res D) : D → D → Sto → Res D := fun x y st => match insOf c x st with
  | some _ => if okEq c y st = true then (cF F n [] [x, y] st).bind dNotB else .bad
  | none => base x y st
/-- what the class must be for != by its == -/
structure NeC (K : PySem.W.Frag) (C : Addr) : Prop where
  ne : PySem.W.findIn K (.ref C) "__ne__" = some (some (.builtin "object.__ne__"))
  so : PySem.W.subIn K (.ref C) (.type "object") = some true
theorem run_meth1 {σ : St} {Q : VK} {pins : List (Addr × Obj)} {a : Addr} {us : List Value} {s2 : Shared} {m2 : Hw} {l : List D} {vs : List V} {st2 : Sto} {d : D} (h : DefOk X.prog X.w X.K X.mg X.base k g ps [] F) (hr : Room k X.A.in1) (tk : Takes X W.w) (q1 : Rep X.K X.mg m2.r m2.g d (.ref a))
    (I2 : Inv X pins σ m2.h s2) (rv2 : Vals vs us) (r2 : Rel X.K X.mg m2 st2) (q2 : Reps X.K X.mg m2.r m2.g l vs) (hp2 : Post X.K X.mg W.w m2 σ (RD X.K X.mg) Q (cF F ps.length [] (d :: l) st2)) :
    wpAny (model X.prog X.w) X.A.in1 (call (.ref g) (Value.ref a :: us)) (EP X pins σ Q) X.xe s2 := by
  obtain ⟨⟨fd, h1, h2, _⟩, h3⟩ := h
  obtain ⟨ds, dv, bb⟩ := h2 0 (Nat.zero_le _)
  cases dv
  unfold cF at hp2
  split at hp2
  · rename_i hl
    have rr : Vals (V.ref a :: vs) (Value.ref a :: us) := .cons rfl rv2
    have hlen : (Value.ref a :: us).length = ps.length := by
      rw [← rr.length]
      have z := q2.length
      simp at hl ⊢
      omega
    refine wpAny_call (codeAny_mono (h1.run X.A.in1 X.stack s2 m2.h ⟨Value.ref a :: us, []⟩ (Value.ref a :: us) (V.ref a :: vs) Q (WE W.w σ) hr I2.env0.in1 (by simpa using bb s2 (Value.ref a :: us) I2.kIn (by simpa using hlen)) rr
      ⟨m2, _, st2, rfl, r2, by simpa using Reps.cons q1 q2, hl, hp2.conv⟩) fun r s' hq => ?_)
    cases r with
    | error e => exact passAt tk σ pins _ _ e s' I2 hq
    | ok fl =>
      cases fl with
      | ret u => exact I2.after hq
      | next => exact False.elim hq
      | brk => exact False.elim hq
      | cont => exact False.elim hq
  · exact False.elim hp2
theorem BinS.ownNe (h : DefOk X.prog X.w X.K X.mg X.base k g ps [] F) (hr : Room (k + 1) X.A) (tk : Takes X W.w) (hc : X.mg (cName c) = some (.ref C)) (hme : Meth X.K C "__eq__" g) (hn : NeC X.K C) (nt : ∀ t ∈ eqTys, PySem.W.subIn X.K (.type t) (.ref C) = some false) (hb : BinS X W (compareOp .NotEq) base) :
    BinS X W (compareOp .NotEq) (dOwnNe c F ps.length base) := by
  intro pins s σ m st x y xv yv v u Q I rx ry rm qx qy hp
  unfold dOwnNe at hp
  split at hp
  · rename_i l1 e1
    split at hp
    · rename_i ho
      obtain ⟨a, ox, od, rfl, J, _⟩ := inst_of I hc rm qx e1
      obtain rfl : v = Value.ref a := rx
      obtain ⟨tb, L, hnf⟩ := looks_eq I hc nt rm qy ry ho
      obtain ⟨mm, hF⟩ := I.fr
      show wpAny _ _ (richCompare .NotEq (.ref a) u) _ _ _
      have hu : X.A.units + 1 < cLine := by
        have := hr.in1.units0
        exact this
      refine ne_viaEq hu hF I.ok.mod.kin J L hnf hn.ne hn.so hme.at_ hme.fn (wpAny_mono (run_meth1 (us := [u]) (vs := [yv]) (Q := fun w H3 => ∃ b, w = .bl b ∧ Q (.bl !b) H3) h hr.in1 tk qx I (.cons ry .nil) rm (.one qy) (hp.bindc fun m1 d w st1 e1 r1 q1 hp1 => ?_)) (fun w' s' z => ?_) fun _ _ z => z)
      · unfold dNotB at hp1
        split at hp1
        · cases q1
          exact ⟨_, rfl, hp1.okc r1 (.bl _)⟩
        · exact False.elim hp1
      · obtain ⟨z', H', I', rz, b, rfl, qz⟩ := z
        cases (show w' = Value.bool b from rz)
        exact ⟨b, rfl, .bl !b, H', I', rfl, qz⟩
    · exact False.elim hp
  · exact hb pins s σ m st x y xv yv v u Q I rx ry rm qx qy hp
/-! own call -/
theorem callO_kw0 {M : Model} {A : Around} {E : Value → Shared → Prop} {s : Shared} {a : Addr} {pos : Pos} {env : Env} {Q : Value → Shared → Prop} (hall : (backToKw pos (keywordEach kws env)).all (·.1.isSome) = true)
    (hpl : ((backTo pos (starEach [] env)).any (·.1) || (backToKw pos (keywordEach kws env)).any (·.1.isNone)) = false)
    (h : wpAny M A (evalAll ((backToKw pos (keywordEach kws env)).map (·.2))) (fun ks s₁ => (∃ C ox od, PySem.W.InstAt s₁.heap a ox C od ∧ ox.data = .plain) ∧ wpAny M A (call (.ref a) [] (((backToKw pos (keywordEach kws env)).filterMap (·.1)).zip ks)) Q E s₁) E s) :
    wpAny M A (callWith pos (.ref a) [] (backTo pos (starEach [] env)) (backToKw pos (keywordEach kws env))) Q E s := by
  unfold callWith
  have h' : wpAny M A (evalArgs (.ref a) true (backTo pos (starEach [] env)) (backToKw pos (keywordEach kws env))) (fun z s₁ => (∃ C ox od, PySem.W.InstAt s₁.heap a ox C od ∧ ox.data = .plain) ∧ wpAny M A (call (.ref a) z.pos z.kw) Q E s₁) E s := PyProof.Rows.evalArgs_kw2_nil hall h
  refine wpAny_bind (wpAny_holding (wpAny_mono h' (fun z s₁ h₁ => wpAny_bind (wpAny_standAt ?_)) fun _ _ y => y))
  obtain ⟨⟨C, ox, od, J, hd⟩, h₁⟩ := h₁
  have L := PySem.W.kco_keeper (M := M) J hd
  simp only [hpl]
  refine wpAny_bind (L.here ?_)
  have tail : ∀ {t : Sem Value}, wpAny M A t Q E s₁ → wpAny M A (t >>= fun r => holding [r] point >>= fun _ => pure r) Q E s₁ :=
    fun ht => wpAny_bind (wpAny_mono ht (fun r s₂ hr => wpAny_bind (wpAny_holding (wpAny_point (wpAny_pure hr)))) fun _ _ y => y)
  exact tail (wpAny_operateT h₁)
theorem run_code {σ : St} {Q : VK} {pins : List (Addr × Obj)} {us ws : List Value} {s2 : Shared} {m2 : Hw} {l z : List D} {vs zs : List V} {st2 : Sto} (h : DefKw X.prog X.w X.K X.mg X.base k g ps dvs F np ks arr) (hd : ∀ r G, Reps X.K X.mg r G dds dvs) (hr : Room k X.A) (tk : Takes X W.w)
    (I2 : Inv X pins σ m2.h s2) (rv : Vals vs us) (rz : Vals zs ws) (r2 : Rel X.K X.mg m2 st2) (q2 : Reps X.K X.mg m2.r m2.g l vs) (qz : Reps X.K X.mg m2.r m2.g z zs) (hp2 : Post X.K X.mg W.w m2 σ (RD X.K X.mg) Q (cK F ps.length np ks.length arr dds l z st2)) :
    codeAny (model X.prog X.w) X.A (.call (.ref g) ⟨us, ks.zip ws⟩) (fun r s' => match r with | .ok (.ret v) => EP X pins σ Q v s' | .ok _ => False | .error e => X.xe e s') s2 := by
  obtain ⟨fd, its, hF, hv, hb, _⟩ := h
  unfold cK at hp2
  split at hp2
  · rename_i hl
    obtain ⟨l1, l2, l3⟩ := hl
    refine codeAny_mono (hF.run X.A X.stack s2 m2.h ⟨us, ks.zip ws⟩ (pick arr us its ws) (pick arr vs dvs zs) Q (WE W.w σ) hr I2.env0 (hb.to s2 us ws I2.kIn (by rw [← rv.length, ← q2.length]; exact l1) (by rw [← rz.length, ← qz.length]; exact l2)) (pick_vals rv hv rz arr)
      ⟨m2, _, st2, rfl, r2, pick_reps q2 (hd _ _) qz arr, l3, hp2.conv⟩) fun r s' hq => ?_
    cases r with
    | error e => exact passAt tk σ pins _ _ e s' I2 hq
    | ok fl =>
      cases fl with
      | ret u => exact I2.after hq
      | next => exact False.elim hq
      | brk => exact False.elim hq
      | cont => exact False.elim hq
  · exact False.elim hp2
/-- o(k = v, ..) of an instance -/
def isObj : D → Bool
  | .ins _ _ => true
  | .loc _ => true
  | _ => false
theorem isObj_ref {r : List Addr} {G : Hp} {x : D} {v : V} (h : isObj x = true) (q : Rep X.K X.mg r G x v) : ∃ a, v = .ref a := by
  cases x <;> first | (exact Bool.noConfusion h) | skip
  · cases q; exact ⟨_, rfl⟩
  · cases q; exact ⟨_, rfl⟩
@[simp] def fOcallK (c : Nat) (sem : List D → List D → Sto → Res D) (fo : EF) (gk : AF) : EF := fun sg st => (fo sg st).bind fun x st1 => if isObj x = true then ((gk sg st1).bind fun z st2 => match insOf c x st2 with
  | some _ => sem [x] z st2
  | none => .bad) else .bad
theorem se_ocallK {c : Nat} (h : DefKw X.prog X.w X.K X.mg X.base k g ps dvs F np ks arr) (hd : ∀ r G, Reps X.K X.mg r G dds dvs) (hr : Room k X.A) (tk : Takes X W.w) (hc : X.mg (cName c) = some (.ref C)) (co : StX.CallO X.K C g) (ho : SE X W o fo) (hk : SK X W kws gk)
    (hall : (backToKw pos (keywordEach kws X.env)).all (·.1.isSome) = true := by rfl) (hks : (backToKw pos (keywordEach kws X.env)).filterMap (·.1) = ks := by rfl)
    (hpl : ((backTo pos (starEach [] X.env)).any (·.1) || (backToKw pos (keywordEach kws X.env)).any (·.1.isNone)) = false := by rfl)
    (ht : eval (.Call o [] kws pos) X.env = (do callWith pos (← eval o X.env) [] (backTo pos (starEach [] X.env)) (backToKw pos (keywordEach kws X.env))) := by rfl) :
    SE X W (.Call o [] kws pos) (fOcallK c (cK F ps.length np ks.length arr dds) fo gk) := by
  refine ⟨fun pins s σ H Q I hq => ?_⟩
  obtain ⟨w, sg, st, rfl, rm, rs, hp⟩ := hq
  rw [ht]
  refine wpAny_bind (thn (ho.run pins s σ w.h (MPost X W σ sg Q fun x st1 => if isObj x = true then ((gk sg st1).bind fun z st2 => match insOf c x st2 with
    | some _ => cK F ps.length np ks.length arr dds [x] z st2
    | none => .bad) else .bad) I ⟨w, sg, st, rfl, rm, rs, hp.bindc fun m1 x v st1 e1 r1 q1 hp1 => ⟨m1, x, st1, rfl, r1, rs.mono e1, q1, hp1⟩⟩) fun u s1 hh => ?_)
  obtain ⟨v, H1, I1, rv, m1, x, st1, rfl, r1, rs1, q1, hp1⟩ := hh
  dsimp only at hp1
  split at hp1
  · rename_i hob
    obtain ⟨a, rfl⟩ := isObj_ref hob q1
    obtain rfl : u = Value.ref a := rv
    refine callO_kw0 hall hpl (thn (hk.run pos pins s1 σ m1.h (fun zs H3 => ∃ m3 z st3, m3.h = H3 ∧ Ext m1 m3 ∧ Rel X.K X.mg m3 st3 ∧ Reps X.K X.mg m3.r m3.g z zs ∧ Post X.K X.mg W.w m3 σ (RD X.K X.mg) Q (match insOf c x st3 with
      | some _ => cK F ps.length np ks.length arr dds [x] z st3
      | none => .bad)) I1
      ⟨m1, sg, st1, rfl, r1, rs1, Post.bindc (x := gk sg st1) hp1 fun m3 z zs st3 e3 r3 q3 hp3 => ⟨m3, z, st3, rfl, e3, r3, q3, hp3⟩⟩) fun ws s2 hz => ?_)
    obtain ⟨zs, H3, I3, rz, m3, z, st3, rfl, e3, r3, q3, hp3⟩ := hz
    split at hp3
    · rename_i l hl
      obtain ⟨a', ox, od, ea, J, hd'⟩ := inst_of I3 hc r3 (q1.mono e3) hl
      cases ea
      refine ⟨⟨C, ox, od, J, hd'⟩, ?_⟩
      rw [hks]
      exact wpAny_call (PySem.W.kco_code I3.kIn J hd' co.at_ co.fn co.fi (run_code (us := [.ref a]) (vs := [.ref a]) h hd hr tk I3 (.cons rfl .nil) rz r3 (.one (q1.mono e3)) q3 hp3))
    · exact False.elim hp3
  · exact False.elim hp1
/-- o(e, ..) of an instance -/
@[simp] def fOcall (c : Nat) (sem : List D → Sto → Res D) (fo : EF) (ga : AF) : EF := fun sg st => (fo sg st).bind fun x st1 => if isObj x = true then ((ga sg st1).bind fun l st2 => match insOf c x st2 with
  | some _ => sem (x :: l) st2
  | none => .bad) else .bad
theorem cF_cK {l : List D} {st : Sto} {n : Nat} : cF F n [] l st = if l.length = n then F l st else .bad := by unfold cF; simp
theorem run_meth0 {σ : St} {Q : VK} {pins : List (Addr × Obj)} {us : List Value} {s2 : Shared} {m2 : Hw} {l : List D} {vs : List V} {st2 : Sto} (h : DefOk X.prog X.w X.K X.mg X.base k g ps [] F) (hr : Room k X.A) (tk : Takes X W.w)
    (I2 : Inv X pins σ m2.h s2) (rv2 : Vals vs us) (r2 : Rel X.K X.mg m2 st2) (q2 : Reps X.K X.mg m2.r m2.g l vs) (hp2 : Post X.K X.mg W.w m2 σ (RD X.K X.mg) Q (cF F ps.length [] l st2)) :
    codeAny (model X.prog X.w) X.A (.call (.ref g) ⟨us, []⟩) (fun r s' => match r with | .ok (.ret v) => EP X pins σ Q v s' | .ok _ => False | .error e => X.xe e s') s2 := by
  obtain ⟨⟨fd, h1, h2, _⟩, h3⟩ := h
  obtain ⟨ds, dv, bb⟩ := h2 0 (Nat.zero_le _)
  cases dv
  rw [cF_cK] at hp2
  split at hp2
  · rename_i hl
    have hlen : us.length = ps.length := by rw [← rv2.length, ← q2.length]; exact hl
    refine codeAny_mono (h1.run X.A X.stack s2 m2.h ⟨us, []⟩ us vs Q (WE W.w σ) hr I2.env0 (by simpa using bb s2 us I2.kIn (by simpa using hlen)) rv2 ⟨m2, l, st2, rfl, r2, q2, hl, hp2.conv⟩) fun r s' hq => ?_
    cases r with
    | error e => exact passAt tk σ pins _ _ e s' I2 hq
    | ok fl =>
      cases fl with
      | ret u => exact I2.after hq
      | next => exact False.elim hq
      | brk => exact False.elim hq
      | cont => exact False.elim hq
  · exact False.elim hp2
theorem se_ocall {c : Nat} (h : DefOk X.prog X.w X.K X.mg X.base k g ps [] F) (hr : Room k X.A) (tk : Takes X W.w) (hc : X.mg (cName c) = some (.ref C)) (co : StX.CallO X.K C g) (ho : SE X W o fo) (ha : SA X W (e :: es) ga)
    (ht : eval (.Call o (e :: es) [] pos) X.env = (do callWith pos (← eval o X.env) [] (backTo pos (starEach (e :: es) X.env)) (backToKw pos (keywordEach [] X.env))) := by rfl)
    (he : starEach (e :: es) X.env = (false, eval e X.env) :: starEach es X.env := by rfl) (hpl : (backTo pos (starEach es X.env)).any (·.1) = false := by rfl) :
    SE X W (.Call o (e :: es) [] pos) (fOcall c (cF F ps.length []) fo ga) := by
  refine ⟨fun pins s σ H Q I hq => ?_⟩
  obtain ⟨w, sg, st, rfl, rm, rs, hp⟩ := hq
  refine PyProof.Rows.Call_ (thn (ho.run pins s σ w.h (MPost X W σ sg Q fun x st1 => if isObj x = true then ((ga sg st1).bind fun z st2 => match insOf c x st2 with
    | some _ => cF F ps.length [] (x :: z) st2
    | none => .bad) else .bad) I ⟨w, sg, st, rfl, rm, rs, hp.bindc fun m1 x v st1 e1 r1 q1 hp1 => ⟨m1, x, st1, rfl, r1, rs.mono e1, q1, hp1⟩⟩) fun u s1 hh => ?_) ht
  obtain ⟨v, H1, I1, rv, m1, x, st1, rfl, r1, rs1, q1, hp1⟩ := hh
  dsimp only at hp1
  split at hp1
  · rename_i hob
    obtain ⟨a, rfl⟩ := isObj_ref hob q1
    obtain rfl : u = Value.ref a := rv
    refine StX.callO_with (thn (ha.run pos pins s1 σ m1.h (fun zs H3 => ∃ m3 z st3, m3.h = H3 ∧ Ext m1 m3 ∧ Rel X.K X.mg m3 st3 ∧ Reps X.K X.mg m3.r m3.g z zs ∧ Post X.K X.mg W.w m3 σ (RD X.K X.mg) Q (match insOf c x st3 with
      | some _ => cF F ps.length [] (x :: z) st3
      | none => .bad)) I1
      ⟨m1, sg, st1, rfl, r1, rs1, Post.bindc (x := ga sg st1) hp1 fun m3 z zs st3 e3 r3 q3 hp3 => ⟨m3, z, st3, rfl, e3, r3, q3, hp3⟩⟩) fun ws s2 hz => ?_) he hpl
    obtain ⟨zs, H3, I3, rz, m3, z, st3, rfl, e3, r3, q3, hp3⟩ := hz
    split at hp3
    · rename_i l hl
      obtain ⟨a', ox, od, ea, J, hd'⟩ := inst_of I3 hc r3 (q1.mono e3) hl
      cases ea
      exact ⟨⟨C, ox, od, J, hd'⟩, wpAny_call (PySem.W.kco_code I3.kIn J hd' co.at_ co.fn co.fi (run_meth0 (us := .ref a :: ws) (vs := .ref a :: zs) h hr tk I3 (.cons rfl rz) r3 (.cons (q1.mono e3) q3) hp3))⟩
    · exact False.elim hp3
  · exact False.elim hp1
/-! methods of built-in values -/
theorem tyV_of {m : Hw} {st : Sto} {d : D} {v : V} {t : String} (rm : Rel X.K X.mg m st) (h : Rep X.K X.mg m.r m.g d v) (e : tyD d st = some t) (ht : t = "list" ∨ t = "str" ∨ t = "int" ∨ t = "dict") : tyV X.K t v m.h := by
  unfold tyD at e
  split at e
  · cases e; simp at ht
  · cases e; simp at ht
  · cases h; cases e; exact rfl
  · cases h; cases e; exact rfl
  · cases e; simp at ht
  · cases e
    cases h with
    | lst h1 h2 => exact .inl ⟨rfl, _, SqL.of (rm.sub _ _ h1)⟩
  · cases e
    cases h with
    | edict h1 => exact .inr (.inr (.inl ⟨rfl, .inl ⟨_, rm.sub _ _ h1⟩⟩))
  · cases h with
    | loc h1 =>
      split at e
      · rename_i l h2
        cases e
        obtain ⟨vs, h3, _⟩ := rm.obj _ _ _ h1 h2
        exact .inl ⟨rfl, _, SqL.of h3⟩
      · rename_i l h2
        cases e
        obtain ⟨vs, h3, _⟩ := rm.obj _ _ _ h1 h2
        exact .inr (.inr (.inl ⟨rfl, .inl ⟨_, h3⟩⟩))
      · cases e
  · cases e
def FitsM (X : Cx) (W : We) (r : V → List V → Hp → VK → Prop) (sem : D → List D → Sto → Res D) : Prop :=
  ∀ (m : Hw) (st : Sto) (σ : St) (x : D) (v : V) (l : List D) (vs : List V) (Q : VK), Rel X.K X.mg m st → Rep X.K X.mg m.r m.g x v → Reps X.K X.mg m.r m.g l vs → Post X.K X.mg W.w m σ (RD X.K X.mg) Q (sem x l st) → r v vs m.h Q
@[simp] def fBM (T : String) (sem : D → List D → Sto → Res D) (fo : EF) (ga : AF) : EF := fun sg st => (fo sg st).bind fun x st1 => if tyD x st1 = some T then ((ga sg st1).bind fun l st2 => sem x l st2) else .bad
variable {T id : String} {r : V → List V → Hp → VK → Prop} {name : Str} {semM : D → List D → Sto → Res D}
theorem se_bm (pa : PlainAttrs T) (slot : Slot T name id) (hty : typeOf (.builtin id) = pure (.type "method_descriptor")) (hm : MtR X id r) (fits : FitsM X W r semM) (hT : T = "list" ∨ T = "str" ∨ T = "int" ∨ T = "dict") (ho : SE X W o fo) (ha : SA X W (e :: es) ga)
    (hbase : attributeBase o name X.env (eval o X.env) = eval o X.env := by rfl)
    (hfew : ((backTo pos (starEach (e :: es) X.env)).all (fun x => !x.1) && (backToKw pos (keywordEach [] X.env)).all (fun x => x.1.isSome)
      && decide ((e :: es).length + ([] : List Keyword).length + (if ([] : List Keyword).isEmpty then 0 else 1) < 30)) = true := by rfl)
    (hline : (apos.endLine == pos.line) = true := by rfl) (hs : starEach (e :: es) X.env = (false, eval e X.env) :: starEach es X.env := by rfl) (hplain : (backTo pos (starEach es X.env)).any (·.1) = false := by rfl) :
    SE X W (.Call (.Attribute o name apos) (e :: es) [] pos) (fBM T semM fo ga) :=
  pe_weak (pe_bm pa slot hty hm ho ha hbase hfew hline hs hplain) fun σ H Q ⟨m, sg, st, e, rm, rs, hp⟩ => ⟨m, sg, st, e, rm, rs, hp.bindc fun m1 x v st1 e1 r1 q1 hp1 => by
    split at hp1
    · rename_i ht
      exact ⟨tyV_of r1 q1 ht hT, m1, sg, st1, rfl, r1, rs.mono e1, hp1.bindc fun m2 l vs st2 e2 r2 q2 hp2 => fits m2 st2 σ x v l vs Q r2 (q1.mono e2) q2 hp2⟩
    · exact False.elim hp1⟩
theorem se_bm0 (pa : PlainAttrs T) (slot : Slot T name id) (hty : typeOf (.builtin id) = pure (.type "method_descriptor")) (hm : MtR X id r) (fits : FitsM X W r semM) (hT : T = "list" ∨ T = "str" ∨ T = "int" ∨ T = "dict") (ho : SE X W o fo)
    (hbase : attributeBase o name X.env (eval o X.env) = eval o X.env := by rfl) (hline : (apos.endLine == pos.line) = true := by rfl) :
    SE X W (.Call (.Attribute o name apos) [] [] pos) (fBM T semM fo aNil) :=
  pe_weak (pe_bm0 pa slot hty hm ho hbase hline) fun σ H Q ⟨m, sg, st, e, rm, rs, hp⟩ => ⟨m, sg, st, e, rm, rs, hp.bindc fun m1 x v st1 e1 r1 q1 hp1 => by
    split at hp1
    · rename_i ht
      exact ⟨tyV_of r1 q1 ht hT, fits m1 st1 σ x v [] [] Q r1 q1 .nil hp1⟩
    · exact False.elim hp1⟩
/-- xs.append(e) -/
def mApp (x : D) (l : List D) (st : Sto) : Res D := match x, l with
  | .loc n, [d] => match st[n]? with
    | some (.lst xs) => if xs.length < 16777216 then .ok .non (st.set n (.lst (xs ++ [d]))) else .bad
    | _ => .bad
  | _, _ => .bad
theorem fits_app : FitsM X W rAppend mApp := by
  intro m st σ x v l vs Q rm q ql hp
  unfold mApp at hp
  split at hp
  · split at hp
    · rename_i xs hx
      split at hp
      · rename_i hl
        cases q with
        | loc h1 =>
          obtain ⟨ys, h2, h3⟩ := rm.obj _ _ _ h1 hx
          cases ql with
          | cons k1 k2 =>
            cases k2
            refine ⟨_, ys, _, rfl, rfl, h2, by rw [← h3.length]; exact hl, ?_⟩
            exact hp (m.put _ (.lst (ys ++ [_]))) .non (Ext.put (List.mem_of_getElem? h1)) (rm.put h1 ⟨_, upd_same, h3.append (.one k1)⟩) .non
      · exact False.elim hp
    · exact False.elim hp
  · exact False.elim hp
end
/-! the facts -/
def bNt (x : Str) (K : PySem.W.Frag) : Bool := eqTys.all fun t => decide (PySem.W.subIn K (.type t) (.ref (ga K x)) = some false)
theorem nt_ok {K : PySem.W.Frag} {x : Str} (h : bNt x K = true) : ∀ t ∈ eqTys, PySem.W.subIn K (.type t) (.ref (ga K x)) = some false := fun t ht => of_decide_eq_true (List.all_eq_true.mp h t ht)
def bNe (x : Str) (K : PySem.W.Frag) : Bool := decide (PySem.W.findIn K (.ref (ga K x)) "__ne__" = some (some (.builtin "object.__ne__"))) && decide (PySem.W.subIn K (.ref (ga K x)) (.type "object") = some true)
theorem ne_ok {K : PySem.W.Frag} {x : Str} (h : bNe x K = true) : NeC K (ga K x) := by
  obtain ⟨h1, h2⟩ := Bool.and_eq_true_iff.mp h
  exact ⟨of_decide_eq_true h1, of_decide_eq_true h2⟩
def bCallO (x : Str) (K : PySem.W.Frag) : Bool := decide (PySem.W.findIn K (.ref (ga K x)) "__call__" = some (some (.ref (ma K (ga K x) "__call__")))) && (PySem.W.isFn K (.ref (ma K (ga K x) "__call__")) && PySem.W.fnIn K (ma K (ga K x) "__call__"))
theorem callO_ok {K : PySem.W.Frag} {x : Str} (h : bCallO x K = true) : StX.CallO K (ga K x) (ma K (ga K x) "__call__") := by
  obtain ⟨h1, h⟩ := Bool.and_eq_true_iff.mp h
  obtain ⟨h2, h3⟩ := Bool.and_eq_true_iff.mp h
  exact ⟨of_decide_eq_true h1, h2, h3⟩
end Sh
/-! Part N: chains of comparisons. -/
namespace Sh
open PySem L2 He
section
variable {X : Cx} {W : We} {a b c : Expr} {fa fb fc : EF} {pos : Pos} {s1 s2 : D → D → Sto → Res D}
/-- a op1 b op2 c -/
@[simp] def fChn (s1 s2 : D → D → Sto → Res D) (fa fb fc : EF) : EF := fun sg st => (fa sg st).bind fun x st1 => (fb sg st1).bind fun y st2 => (s1 x y st2).bind fun z st3 => match z with
  | .bl k => if k = true then ((fc sg st3).bind fun w st4 => s2 y w st4) else .ok (.bl false) st3
  | _ => .bad
theorem chn_of {r r' : R2} (hs : Fits2 X W r s1) (hs' : Fits2 X W r' s2) {σ : St} {H : Hp} {Q : VK} (h : TOf X.K X.mg W (RD X.K X.mg) (fChn s1 s2 fa fb fc) σ H Q) : tChain r r' (TOf X.K X.mg W (RD X.K X.mg) fa) (TOf X.K X.mg W (RD X.K X.mg) fb) (TOf X.K X.mg W (RD X.K X.mg) fc) σ H Q := by
  obtain ⟨m, sg, st, rfl, rm, rs, hp⟩ := h
  refine ⟨m, sg, st, rfl, rm, rs, hp.bindc fun m1 x v st1 e1 r1 q1 hp1 => ⟨m1, sg, st1, rfl, r1, rs.mono e1, hp1.bindc fun m2 y w st2 e2 r2 q2 hp2 => hs m2 st2 σ x y v w _ r2 (q1.mono e2) q2 (hp2.bindc fun m3 z v3 st3 e3 r3 q3 hp3 => ?_)⟩⟩
  split at hp3
  · rename_i k
    cases q3
    refine ⟨k, rfl, ?_⟩
    cases k with
    | true =>
      rw [if_pos rfl] at hp3 ⊢
      exact ⟨m3, sg, st3, rfl, r3, rs.mono (e1.trans (e2.trans e3)), hp3.bindc fun m4 w' v4 st4 e4 r4 q4 hp4 => hs' m4 st4 σ y w' w v4 Q r4 (q2.mono (e3.trans e4)) q4 hp4⟩
    | false =>
      rw [if_neg Bool.false_ne_true] at hp3 ⊢
      exact hp3.okc r3 (.bl _)
  · exact False.elim hp3
theorem se_chn {op op' : CmpOp} {r r' : R2} (ho : OpR X (compareOp op) r) (hs : Fits2 X W r s1) (ho' : OpR X (compareOp op') r') (hs' : Fits2 X W r' s2) (ha : SE X W a fa) (hb : SE X W b fb) (hc : SE X W c fc)
    (hm : lastMarks [op, op'] [b, c] = false := by with_unfolding_all rfl) : SE X W (.Compare a [op, op'] [b, c] pos) (fChn s1 s2 fa fb fc) :=
  pe_weak (pe_chain ho ho' ha hb hc hm) fun _ _ _ h => chn_of hs hs' h
theorem sb_chn {op op' : CmpOp} {r r' : R2} (ho : OpR X (compareOp op) r) (hs : Fits2 X W r s1) (ho' : OpR X (compareOp op') r') (hs' : Fits2 X W r' s2) (ha : SE X W a fa) (hb : SE X W b fb) (hc : SE X W c fc)
    (hm : lastMarks [op, op'] [b, c] = false := by with_unfolding_all rfl) : SB X W (.Compare a [op, op'] [b, c] pos) (tOfE (fChn s1 s2 fa fb fc)) :=
  pt_weak (pt_chain ho ho' ha hb hc hm) fun σ H Q ⟨m, sg, st, e, rm, rs, hp⟩ => chn_of hs hs' ⟨m, sg, st, e, rm, rs, post_bool hp⟩
end
end Sh
/-! Part O: errors with a field: their __init__, raise. -/
namespace Sh
open PySem L2 He
/-- what the written part must say of such an error's class -/
def bOex (x : Str) (K : PySem.W.Frag) : Bool := (match K.lookup (ga K x) with
  | some ⟨.type "type", _, .cls cd, sl⟩ => (match cd.mro, sl.toList with
    | .ref C' :: bm, [_, _, _, _, some (.builtin n), _] => C' == ga K x && n == "ValueError.__new__" && !cd.hasDel && cd.hasDict && PySem.HandSPX.refsVE bm
    | _, _ => false)
  | _ => false) && decide (PySem.W.findIn K (.ref (ga K x)) "__setattr__" = some (some (.builtin "object.__setattr__"))) && decide (PySem.W.subIn K (.ref (ga K x)) (.type "BaseException") = some true) && decide (PySem.W.typeIn K (.ref (ga K x)) = some (.type "type")) && PySem.W.keepIn K (.ref (ga K x)) &&
  decide (PySem.W.findIn K (.ref (ga K x)) "__init__" = some (some (.ref (ma K (ga K x) "__init__")))) && decide (PySem.W.typeIn K (.ref (ma K (ga K x) "__init__")) = some (.type "function"))
structure OexK (K : PySem.W.Frag) (C fI : Addr) : Prop where
  c : OexC K C
  i : PySem.W.findIn K (.ref C) "__init__" = some (some (.ref fI))
  t : PySem.W.typeIn K (.ref fI) = some (.type "function")
theorem oex_ok {K : PySem.W.Frag} {x : Str} (h : bOex x K = true) : OexK K (ga K x) (ma K (ga K x) "__init__") := by
  unfold bOex at h
  simp only [Bool.and_eq_true, decide_eq_true_eq] at h
  obtain ⟨⟨⟨⟨⟨⟨q, h1⟩, h2⟩, h3⟩, h4⟩, h5⟩, h6⟩ := h
  refine ⟨⟨?_, h1, h2, h3, h4⟩, h5, h6⟩
  split at q
  · rename_i dd cd sl ho
    split at q
    · rename_i C' bm k0 k1 k2 k3 n k5 hm hs
      simp only [Bool.and_eq_true, beq_iff_eq, Bool.not_eq_true'] at q
      obtain ⟨⟨⟨⟨e1, rfl⟩, hdel⟩, hdd⟩, ht⟩ := q
      obtain ⟨nm, bs, mro, ns, qn, hd, sn, sub, ab, col, del⟩ := cd
      dsimp only at hm hdel hdd
      subst hm hdel hdd
      have hsl : sl = #[k0, k1, k2, k3, some (.builtin "ValueError.__new__"), k5] := by
        obtain ⟨l⟩ := sl
        simp only at hs
        rw [hs]
      subst hsl
      subst e1
      exact ⟨nm, qn, ns, bs, bm, sn, sub, ab, col, dd, k0, k1, k2, k3, k5, ho, ht⟩
    · cases q
  · cases q
/-- self.f = f, in an error that is being made -/
def spX (K : PySem.W.Frag) (f : Str) : Sp := fun vs H Q _ => ∃ (e C : Addr) (y : V), vs = [.ref e, y] ∧ OexC K C ∧ PySem.W.findIn K (.ref C) f = some none ∧ H e = some (exo e C none) ∧
  ∀ dx, H dx = none → dx ≠ e → Q .non (upd (upd H dx (exd dx [(f, y)])) e (exo e C (some dx)))
/-- an error's class with one field: its __init__ -/
structure XDef (P : Program) (w : World) (K : PySem.W.Frag) (mg : Str → Option Value) (base : Heap) (k : Nat) (C : Addr) (f : Str) : Prop where
  ex : ∃ fI fd ps, OexK K C fI ∧ FnOk P w K mg base (L2.CX P w) k fI fd ps (spX K f) ∧ Binds K fd ps [] ∧ ps.length = 2
  nf : PySem.W.findIn K (.ref C) f = some none
section
variable {P : Program} {w : World} {K : PySem.W.Frag} {mg : Str → Option Value} {base : Heap} {x qual y : Str} {st : Stmt} {C f : Addr} {k : Nat}
theorem xdef_ok {fl : Str} (O : OexK K C f) (nf : PySem.W.findIn K (.ref C) fl = some none) (F : ∃ fd, FunD K x qual (defArgs st) (defBody st) (defScope st) [] [] f fd) (S : FnScope ["self", y] ["self", y] (defScope st))
    (hb : ∀ (kV doc pm : Value) (an : Option Addr) (cdv ct : Value) (us : List Value), us.length = (["self", y] : List Str).length → bindArgs (PySem.W.fnOf x qual (defArgs st) (defBody st) (defScope st) .none kV doc pm an cdv ct) ⟨us, []⟩ = pure ((["self", y] : List Str).zip us))
    (hbody : ∀ (cdv : Value) (A : Around) (outer : List Env) (s : Shared) (H : Hp) (E : XK), PSs (cxOf (L2.CX P w) P w K mg base ["self", y] qual (defScope st) f cdv A outer s H E) (defBody st) (tOst K fl (tVar 0) (tVar 1))) :
    XDef P w K mg base 1 C fl := by
  obtain ⟨fd, F⟩ := F
  refine ⟨⟨f, fd, ["self", y], O, F.ok (k := 0) S (fun vs H Q E h => ?_) (fun cdv A outer s H vs Q E hr h => ⟨_, hbody cdv A outer s H E, ?_⟩), FunD.bindsN F hb, rfl⟩, nf⟩
  · obtain ⟨e, C, y, rfl, _⟩ := h
    rfl
  · obtain ⟨e, C', z, rfl, T, n, he, hq⟩ := h
    exact ⟨_, rfl, _, rfl, e, C', rfl, T, n, .inl ⟨he, fun dx h1 h2 => hq dx h1 h2⟩⟩
end
section
variable {X : Cx} {W : We} {e : Expr} {es : List Expr} {g : AF} {pos pos2 p : Pos} {x f : Str} {k ci : Nat} {C : Addr}
def rXc (ci : Nat) (g : AF) : SF := fun sg st => match g sg st with
  | .ok l st1 => match l with
    | [d] => if pu d = true then .exc ci (some d) sg st1 else .bad
    | _ => .bad
  | .exc c o st1 => .exc c o sg st1
  | .bad => .bad
theorem ss_raiseF (h : XDef X.prog X.w X.K X.mg X.base k C f) (hx : xName ci = x) (hf : xFld ci = f) (hc : X.calm = true) (tk : Takes X W.w) (hr : Room (k + 1) X.A) (hg : Gl X x) (hm : X.mg x = some (.ref C)) (ha : SA X W (e :: es) g)
    (hdb : (x == ("__debug__" : Str)) = false := by decide) (he : starEach (e :: es) X.env = (false, eval e X.env) :: starEach es X.env := by rfl) (hpl : (backTo pos (starEach es X.env)).any (·.1) = false := by rfl) :
    SS X W (.Raise (some (.Call (.Name x p) (e :: es) [] pos)) none pos2) (rXc ci g) := by
  obtain ⟨⟨fI, fd, ps, O, hF, hb, hl⟩, nf⟩ := h
  refine ps_weak (ps_raise hc tk (pmk_oex O.c O.i O.t hF hr hb .nil (fun pins σ H s er s' I q => ?_) hg hm ha hdb he hpl)) fun D σ H ⟨m, sg, st, em, rm, rs, hp⟩ => ?_
  · obtain ⟨a, B, H', cls, d, _, _, _, _, _, _, _, hz⟩ := q
    exact hz.elim
  · subst em
    refine ⟨m, sg, st, rfl, rm, rs, ?_⟩
    unfold rXc at hp
    cases hg' : g sg st with
    | bad => rw [hg'] at hp; exact hp
    | exc c o st1 => rw [hg'] at hp; exact fun m' cls dx e' r' x' => hp m' σ cls dx e' r' (rs.mono e') x'
    | ok l st1 =>
      rw [hg'] at hp
      dsimp only at hp
      intro m' vs e' r' q'
      split at hp
      · rename_i d
        split at hp
        · rename_i hpu
          cases q' with
          | cons q1 q2 =>
            cases q2
            rename_i v
            refine ⟨by simp, fun a ha => ⟨a, C, v, rfl, O.c, nf, upd_same, fun dx hdx hne => ⟨rfl, dx, [(f, v)], upd_same, ?_, ?_, ?_⟩⟩⟩
            · rw [upd_ne hne, upd_same]
            · rw [upd_ne hne] at hdx; exact hdx
            · have hdx' : m'.h dx = none := by rw [upd_ne hne] at hdx; exact hdx
              have eh : upd (del (upd (upd (upd m'.h a (exo a C none)) dx (exd dx [(f, v)])) a (exo a C (some dx))) a) dx (.xd [(f, v)]) = upd m'.h dx (.xd [(f, v)]) := by
                funext b
                by_cases h1 : b = dx
                · subst h1; rw [upd_same, upd_same]
                · rw [upd_ne h1, upd_ne h1]
                  by_cases h2 : b = a
                  · subst h2; rw [del_same]; exact ha.symm
                  · rw [del_ne h2, upd_ne h2, upd_ne h1, upd_ne h2]
              rw [eh]
              refine hp (m'.lay dx (.xd [(f, v)])) σ (.ref C) (some dx) (e'.trans (Ext.lay r' hdx')) (r'.lay hdx') (rs.mono (e'.trans (Ext.lay r' hdx'))) ?_
              exact ⟨C, by rw [hx]; exact hm, rfl, dx, v, rfl, by rw [hf]; exact upd_same, q1.mono (Ext.lay r' hdx')⟩
        · exact False.elim hp
      · exact False.elim hp
end
end Sh
/-! Part P: several named except clauses. -/
namespace Sh
open PySem L2 PyProof.Rows
/-- a clause: its class, its name's slot, what its suite does -/
abbrev Clz := Value × Nat × (Addr → Value → Option Addr → TS)
def endsOut (i : Nat) (D : Ends) : Ends := { nx := fun σ' H' => D.nx (σ'.set i none) H', rt := D.rt, bk := fun σ' H' => D.bk (σ'.set i none) H', ct := fun σ' H' => D.ct (σ'.set i none) H' }
/-- what named clauses wish of the body's error, from the first on -/
def wNamed (K : PySem.W.Frag) (Wo : WX) (D : Ends) : List Clz → WX
  | [] => Wo
  | (c, i, ts) :: r => fun cls d σ H => ∃ b, PySem.W.exmOne K cls c = some b ∧ ((b = true → ∀ a, H a = none → ts a cls d (endsOut i D) (σ.set i (some (.ref a))) H) ∧ (b = false → wNamed K Wo D r cls d σ H))
inductive Named (X : Cx) : List ExceptHandler → List Clz → Prop
  | nil : Named X [] []
  | cons {x n : Str} {c : Value} {i : Nat} {ts : Addr → Value → Option Addr → TS} {b₀ : Stmt} {su : List Stmt} {np po : Pos} {hds : List ExceptHandler} {l : List Clz} (hi : X.N[i]? = some n) (hl : X.env.kindOf n = some .local) (hc : Names X x c)
      (hsu : ∀ (a : Addr) (oe : Obj) (cls : Value) (d : Option Addr) (pn : List (Addr × Obj)), Zc cls d oe → (∃ vs, oe.data = .fields vs) → PSs (X.suite a ((a, oe) :: pn)) (b₀ :: su) (ts a cls d)) (r : Named X hds l) :
      Named X (.ExceptHandler (some (.Name x np)) (some n) (b₀ :: su) po :: hds) ((c, i, ts) :: l)
section
variable {X : Cx} {body : List Stmt} {h₀ : ExceptHandler} {hds : List ExceptHandler} {l : List Clz} {pos : Pos} {tb : WX → TS} {Wo : WX}
theorem ps_tryNamed (hs : X.stack = X.env :: X.outer) (hf : X.env.frame = some X.env.locals) (hN : X.N.Nodup) (tk : Takes X Wo)
    (hb : ∀ (W : WX) (pn : List (Addr × Obj)) (xe : Value → Shared → Prop), Takes (X.tr pn xe) W → PassesOwn (model X.prog X.w) X.A X.env xe → PSs (X.tr pn xe) body (tb W)) (hh : Named X (h₀ :: hds) l) :
    PS X (.Try body (h₀ :: hds) [] [] pos) (fun D σ H => tb (wNamed X.K Wo D l) D σ H) := by
  refine ⟨fun pins s σ H D I h => ?_⟩
  have ok := I.ok
  have hfr : X.A.frames = some (X.env :: X.outer) := by rw [ok.frames, hs]
  let catch_ : Value → Shared → Prop := fun e s₁ => wpAny (model X.prog X.w) X.A (noteFrame e X.env) (fun _ s₂ => wpAny (model X.prog X.w) X.A (setFlight e none) (fun _ s₃ => wpAny (model X.prog X.w) X.A (handleBy e X.env (h₀ :: hds)) (SP X pins D) X.xe s₃) X.xe s₂) X.xe s₁
  refine wpAny_Try_except (wpAny_mono ((hb (wNamed X.K Wo D l) (X.pn ++ pins) catch_ (fun u s' xx => ?_) PassesOwn.looking).run [] s σ H D (I.toTry _) h) (fun f s1 hsp => ?_) (fun e s1 he => he))
  · obtain ⟨a, B, sI, pins', σ', H', cls, d, rfl, J', nb, up, sky, na, os, ag, w⟩ := xx
    have J : Inv X pins σ' H' sI := J'.ofTry ok
    have sky' : Sky B (X.env :: X.outer) a (Zc cls d) X.env.locals s'.heap := by rw [← hs]; exact sky
    show wpAny (model X.prog X.w) X.A (noteFrame (.ref a) X.env) _ _ _
    refine Sky.land Zc.steady hfr hf sky' fun h3 fl3 up3 => ?_
    have J3 : Inv X pins σ' H' { s' with heap := h3 } := J.landed nb fl3.1 (up.trans up3) os ag
    obtain ⟨oe3, vs3, he3, hz3, hd3⟩ := fl3.there
    have nfr : a ∉ frs (X.env :: X.outer) := fun hm => by
      obtain ⟨_, o', e', hnf⟩ := fl3.2.2.1.mem hm
      rw [he3] at e'; cases e'
      exact hnf _ hd3
    have nL : a ≠ X.env.locals := fun z => nfr (List.mem_filterMap.mpr ⟨X.env, List.mem_cons_self, by rw [hf, z]⟩)
    have nF : a ∉ X.fs := fun hm => by
      obtain ⟨e, he, q⟩ := List.mem_filterMap.mp hm
      exact nfr (List.mem_filterMap.mpr ⟨e, List.mem_cons_of_mem _ he, q⟩)
    have S3 := J3.suite he3 hd3 na nL nF
    have go : ∀ {hds' : List ExceptHandler} {l' : List Clz}, Named X hds' l' → wNamed X.K Wo D l' cls d σ' H' → wpAny (model X.prog X.w) X.A (handleBy (.ref a) X.env hds') (SP X pins D) X.xe { s' with heap := h3 } := by
      intro hds' l' hk
      induction hk with
      | nil =>
        intro w
        refine wpAny_handleBy_nil ?_
        obtain ⟨k1, k2, k3, oe, vs, T, oT, ts', he, hz, hd, h1, hr⟩ := id fl3
        unfold PySem.passOn
        refine wpAny_bind (wpAny_field he hd h1 ?_)
        rw [if_neg (show ¬ ((Value.ref T == Value.none) = true) from by simp)]
        have fin : wpAny (model X.prog X.w) X.A (setFlight (.ref a) X.env.frame) (fun _ s4 => wpAny (model X.prog X.w) X.A (throw (.ref a) : Sem Flow) (SP X pins D) X.xe s4) X.xe { s' with heap := h3 } := by
          rw [hf]
          exact HandSPX.setFlight_upZ fl3 fun h4 hh4 up4 => wpAny_throw (tk _ _ ⟨a, B, sI, pins, σ', H', cls, d, rfl, J, nb, (up.trans up3).trans up4, .inr (.inr (by rw [hs]; exact hh4)), na, os, ag, w⟩)
        first
          | exact wpAny_bind (wpAny_pure (wpAny_bind fin))
          | exact wpAny_bind fin
      | @cons x n c i ts b₀ su np po hds2 l2 hi hl hc hsu r ih =>
        intro w
        obtain ⟨b, hb1, hyes, hno⟩ := w
        have hloc : Loc X.env.scope n := .inl hl
        refine wpAny_handleBy_cons (codeAny_handlers_test ?_) (by intro q; cases q)
        have LT : PySem.W.Looks (model X.prog X.w) h3 (typeOf (.ref a)) cls := fun A Q E s k q => wpAny_typeOf_ref (k _ _ he3) (by rw [hz3.1]; exact q)
        have LM := PySem.W.exm_one (M := model X.prog X.w) (J3.kIn) LT hb1
        have test : ∀ {Q : Value → Shared → Prop} {E : Value → Shared → Prop}, Q c { s' with heap := h3 } → wpAny (model X.prog X.w) (X.A.mark (some (.ref a))) (eval (.Name x np) X.env) Q E { s' with heap := h3 } := fun {Q E} q => by
          obtain ⟨hg, hdbg, hm | ⟨hm, hv, hnn⟩⟩ := hc
          · exact ld_glob (X := X.suite a ((a, oe3) :: (X.pn ++ pins))) S3 hg hm q hdbg
          · exact ld_blt (X := X.suite a ((a, oe3) :: (X.pn ++ pins))) S3 hg hm hv q hnn hdbg
        refine test (LM.here ?_)
        cases b with
        | true =>
          refine codeAny_handlers_suite_as (HandSPX.lands_againZ fl3 fun h4 fl4 up4 => ?_)
          have J4 : Inv X pins σ' H' { s' with heap := h4 } := J.landed nb fl4.1 ((up.trans up3).trans up4) os ag
          obtain ⟨oe4, vs4, he4, hz4, hd4⟩ := fl4.there
          refine store_ok (X := X.suite a ((a, oe4) :: (X.pn ++ pins))) (v := .ref a) (J4.suite he4 hd4 na nL nF) hN hi hloc rfl (fun s5 S5 => ?_) (.inr hl)
          refine wpAny_mono ((hsu a oe4 cls d (X.pn ++ pins) hz4 ⟨_, hd4⟩).run [] s5 _ H' _ S5 (hyes rfl a na)) (fun f s6 hsp => ?_) (fun _ _ z => False.elim z)
          have end_ : ∀ {σ6 : L2.St} {H6 : Hp} {Q : Shared → Prop}, Inv (X.suite a ((a, oe4) :: (X.pn ++ pins))) [] σ6 H6 s6 → (∀ s7, Inv X pins (σ6.set i none) H6 s7 → Q s7) → wpAny (model X.prog X.w) X.A (do bindName X.env n .none; unbindBehindTheSuite X.env n po) (fun _ s7 => Q s7) X.xe s6 := fun {σ6 H6 Q} S6 hq => gone_ok (S6.unsuite ok) hN hi hl hq
          cases f with
          | next => exact let ⟨σ6, H6, S6, q6⟩ := hsp; end_ S6 fun s7 J7 => ⟨_, _, J7, q6⟩
          | brk => exact let ⟨σ6, H6, S6, q6⟩ := hsp; end_ S6 fun s7 J7 => ⟨_, _, J7, q6⟩
          | cont => exact let ⟨σ6, H6, S6, q6⟩ := hsp; end_ S6 fun s7 J7 => ⟨_, _, J7, q6⟩
          | ret u => exact let ⟨v6, σ6, H6, S6, r6, q6⟩ := hsp; end_ S6 fun s7 J7 => ⟨_, _, _, J7, r6, q6⟩
        | false => exact ih (hno rfl)
    exact go hh w
  · cases f with
    | next => exact let ⟨σ', H', J', q⟩ := hsp; wpAny_execs_nil ⟨σ', H', J'.ofTry ok, q⟩
    | brk => exact let ⟨σ', H', J', q⟩ := hsp; ⟨σ', H', J'.ofTry ok, q⟩
    | cont => exact let ⟨σ', H', J', q⟩ := hsp; ⟨σ', H', J'.ofTry ok, q⟩
    | ret u => exact let ⟨v, σ', H', J', r, q⟩ := hsp; ⟨v, σ', H', J'.ofTry ok, r, q⟩
end
/-! the same over data by value -/
structure Cl where
  hc : Nat → Option Bool
  c0 : Nat
  fl : Bool
  i : Nat
  su : Option D → SF
def pickH : List Cl → Nat → Option D → Sg → Sto → Flw
  | [], c, o, sg, st => .exc c o sg st
  | k :: r, c, o, sg, st => match k.hc c with
    | some true => if c = k.c0 ∧ o.isSome = k.fl then (k.su o (sg.set k.i none) st).unx k.i else .bad
    | some false => pickH r c o sg st
    | none => .bad
def sTryN (g : SF) (l : List Cl) : SF := fun sg st => match g sg st with
  | .exc c o sg1 st1 => pickH l c o sg1 st1
  | r => r
def Cl.z (X : Cx) (k : Cl) (cv : Value) : Clz := (cv, k.i, fun a cls d D σ H => ∃ C o, cls = .ref C ∧ X.mg (xName k.c0) = some (.ref C) ∧ o.isSome = k.fl ∧ (o = none → d = none) ∧ SOf X.K X.mg (WS ⟨k.i, a, cls, d, k.c0, o⟩) (k.su o) D σ H)
/-- the clauses, with their classes -/
inductive ClsOk (X : Cx) : List ExceptHandler → List Cl → List Clz → Prop
  | nil : ClsOk X [] [] []
  | cons {xn n : Str} {cv : Value} {k : Cl} {b₀ : Stmt} {suite : List Stmt} {np pos' : Pos} {hds : List ExceptHandler} {l : List Cl} {z : List Clz} (hi : X.N[k.i]? = some n) (hln : X.env.kindOf n = some .local) (hnm : Names X xn cv)
      (hh : ∀ c b C, k.hc c = some b → X.mg (xName c) = some (.ref C) → PySem.W.exmOne X.K (.ref C) cv = some b)
      (hsu : ∀ (a : Addr) (oe : Obj) (C : Addr) (d : Option Addr) (o : Option D) (pn : List (Addr × Obj)), X.mg (xName k.c0) = some (.ref C) → o.isSome = k.fl → (o = none → d = none) → Zc (.ref C) d oe → (∃ vs, oe.data = .fields vs) → SSs (X.suite a ((a, oe) :: pn)) (WS ⟨k.i, a, .ref C, d, k.c0, o⟩) (b₀ :: suite) (k.su o))
      (r : ClsOk X hds l z) : ClsOk X (.ExceptHandler (some (.Name xn np)) (some n) (b₀ :: suite) pos' :: hds) (k :: l) (k.z X cv :: z)
section
variable {X : Cx} {body : List Stmt} {h₀ : ExceptHandler} {hds : List ExceptHandler} {l : List Cl} {z : List Clz} {pos : Pos} {gs : SF} {w : WX}
theorem ClsOk.named {hds : List ExceptHandler} (h : ClsOk X hds l z) : Named X hds z := by
  induction h with
  | nil => exact .nil
  | cons hi hln hnm hh hsu r ih =>
    exact .cons hi hln hnm (fun a oe cls d pn hz hv => ⟨fun pins s σ H D I ⟨C, o, h1, h2, h4, h5, h3⟩ => by
      subst h1
      exact (hsu a oe C d o pn h2 h4 h5 hz hv).run pins s σ H D I h3⟩) ih
theorem ClsOk.wish {hds : List ExceptHandler} (h : ClsOk X hds l z) {m : Hw} {D : Ends} {c : Nat} {o : Option Sh.D} {sg : Sg} {st : Sto} (hp : PostS X.K X.mg ⟨w, none⟩ m D (pickH l c o sg st)) :
    ∀ m' σ' cls dx, Ext m m' → Rel X.K X.mg m' st → SgRep X.K X.mg none m' sg σ' → XRep X.K X.mg m' c o cls dx → wNamed X.K w D z cls dx σ' m'.h := by
  induction h with
  | nil => exact hp
  | @cons xn n cv k b₀ suite np pos' hds l z hi hln hnm hh hsu r ih =>
    intro m' σ' cls dx e' r' s' x'
    have x2 := x'
    obtain ⟨C, k1, k2, k3⟩ := x'
    subst k2
    unfold pickH at hp
    cases hq : k.hc c with
    | none => rw [hq] at hp; exact False.elim hp
    | some b =>
      rw [hq] at hp
      refine ⟨b, hh c b C hq k1, fun hbt a ha => ?_, fun hbf => ?_⟩
      · subst hbt
        dsimp only at hp
        split at hp
        · rename_i hcc
          obtain ⟨hcc, hfl⟩ := hcc
          subst hcc
          exact ⟨C, o, rfl, k1, hfl, (fun z => by subst z; exact k3), m', sg.set k.i none, st, rfl, r', SgRep.held (y := ⟨k.i, a, .ref C, dx, k.c0, o⟩) s' x2, unx_ok (y := ⟨k.i, a, .ref C, dx, k.c0, o⟩) (PostS.mono hp e')⟩
        · exact False.elim hp
      · subst hbf
        exact ih hp m' σ' (.ref C) dx e' r' s' x2
theorem ss_tryN (hs : X.stack = X.env :: X.outer) (hf : X.env.frame = some X.env.locals) (hN : X.N.Nodup) (tk : Takes X w)
    (hb : ∀ (W' : WX) (pn : List (Addr × Obj)) (xe : Value → Shared → Prop), Takes (X.tr pn xe) W' → PassesOwn (model X.prog X.w) X.A X.env xe → SSs (X.tr pn xe) ⟨W', none⟩ body gs) (hh : ClsOk X (h₀ :: hds) l z) :
    SS X ⟨w, none⟩ (.Try body (h₀ :: hds) [] [] pos) (sTryN gs l) :=
  ps_weak (ps_tryNamed (tb := fun W' => SOf X.K X.mg ⟨W', none⟩ gs) hs hf hN tk hb hh.named) fun D σ H ⟨m, sg, st, e, rm, rs, hp⟩ => ⟨m, sg, st, e, rm, rs, by
    unfold sTryN at hp
    cases hg : gs sg st with
    | exc c o sg1 st1 =>
      rw [hg] at hp
      exact hh.wish hp
    | nx sg1 st1 => rw [hg] at hp; exact hp
    | ret d st1 => rw [hg] at hp; exact hp
    | brk sg1 st1 => rw [hg] at hp; exact hp
    | cnt sg1 st1 => rw [hg] at hp; exact hp
    | bad => rw [hg] at hp; exact hp⟩
end
/-! within a suite: e.field -/
@[simp] def fXf (i : Nat) (o : Option D) : EF := fun sg st => match sg[i]?, o with
  | some none, some d => .ok d st
  | _, _ => .bad
theorem se_xf {X : Cx} {y : Ex} {C : Addr} {oe : Obj} {pn : List (Addr × Obj)} {e : Expr} {pos : Pos} {f : Str} (hcl : y.cls = .ref C) (T : XfC X.K C) (hno : PySem.W.findIn X.K (.ref C) f = some none) (hfl : xFld y.c = f) (hz : Zc (.ref C) y.d oe) (hf : ∃ vs, oe.data = .fields vs)
    (he : PE (X.suite y.a ((y.a, oe) :: pn)) e (tVar y.i)) (hb : attributeBase e f X.env (eval e X.env) = eval e X.env := by rfl) : SE (X.suite y.a ((y.a, oe) :: pn)) (WS y) (.Attribute e f pos) (fXf y.i y.o) :=
  pe_weak (pe_xf (cls := .ref C) T hno hz hf he hb) fun σ H Q ⟨m, sg, st, em, rm, rs, hp⟩ => by
    subst em
    unfold fXf at hp
    split at hp
    · rename_i d hsl ho
      obtain ⟨k1, z4⟩ := rs.2.2 y rfl hsl
      obtain ⟨C', c1, c2, c3⟩ := z4
      rw [ho] at c3
      obtain ⟨dd, w, d1, d2, d3⟩ := c3
      exact ⟨_, k1, rfl, rfl, dd, _, w, d1, rm.sub _ _ d2, by rw [hfl]; simp, hp.okc rm d3⟩
    · exact False.elim hp
/-- repr of an int -/
def bRepr : List D → Sto → Res D
  | [.int i], st => if i.natAbs.log2 < 1920 then .ok (.str (toString i)) st else .bad
  | _, _ => .bad
theorem fits_repr {X : Cx} {W : We} : FitsL X W (fun xs H Q => ∃ i, xs = [.int i] ∧ i.natAbs.log2 < 1920 ∧ Q (.str (toString i)) H) bRepr := by
  intro m st σ l vs Q rm q hp
  unfold bRepr at hp
  split at hp
  · split at hp
    · rename_i h
      cases q with
      | cons q1 q2 =>
        cases q1
        cases q2
        exact ⟨_, rfl, h, hp.okc rm (.str _)⟩
    · exact False.elim hp
  · exact False.elim hp
end Sh
/-! Part Q: texts: f-strings, str. -/
namespace Sh
open PySem L2 He
section
variable {X : Cx} {W : We} {e e1 e2 : Expr} {es : List Expr} {f : EF} {pos : Pos}
def dFmt : D → Sto → Res D
  | .str y, st => if y.length ≤ 16777216 then .ok (.str y) st else .bad
  | .int i, st => if i.natAbs.log2 < 1920 then .ok (.str (toString i)) st else .bad
  | _, _ => .bad
@[simp] def fFmt (f : EF) : EF := fun sg st => (f sg st).bind fun x st1 => dFmt x st1
theorem se_fmt (h : SE X W e f) : SE X W (.FormattedValue e (-1) none pos) (fFmt f) :=
  pe_weak (pe_fmt h) fun σ H Q ⟨m, sg, st, em, rm, rs, hp⟩ => ⟨m, sg, st, em, rm, rs, hp.bindc fun m1 x v st1 e1 r1 q1 hp1 => by
    unfold dFmt at hp1
    split at hp1
    · split at hp1
      · rename_i hz
        cases q1
        exact .inl ⟨_, rfl, le_line.mp hz, hp1.okc r1 (.str _)⟩
      · exact False.elim hp1
    · split at hp1
      · rename_i hz
        cases q1
        exact .inr ⟨_, rfl, hz, hp1.okc r1 (.str _)⟩
      · exact False.elim hp1
    · exact False.elim hp1⟩
/-- the parts, one behind the other -/
def fJs : List EF → Str → EF
  | [], acc => fun _ st => .ok (.str acc) st
  | f :: r, acc => fun sg st => (f sg st).bind fun x st1 => match x with
    | .str y => if (acc ++ y).length ≤ 16777216 then fJs r (acc ++ y) sg st1 else .bad
    | _ => .bad
inductive SJ (X : Cx) (W : We) : List Expr → List EF → Prop where
  | nil : SJ X W [] []
  | cons {e : Expr} {f : EF} {es : List Expr} {fs : List EF} (h : SE X W e f) (r : SJ X W es fs) : SJ X W (e :: es) (f :: fs)
theorem SJ.pj {es : List Expr} {fs : List EF} (h : SJ X W es fs) : PJ X es (fs.map fun f => TOf X.K X.mg W (RD X.K X.mg) f) := by
  induction h with
  | nil => exact .nil
  | cons h r ih => exact .cons h ih
theorem js_of {σ : St} {Q : Str → Hp → Prop} : ∀ {fs : List EF} {acc : Str} {m : Hw} {sg : Sg} {st : Sto}, Rel X.K X.mg m st → SgRep X.K X.mg W.e m sg σ → Post X.K X.mg W.w m σ (RD X.K X.mg) (fun v H3 => ∃ y, v = .str y ∧ Q y H3) (fJs fs acc sg st) →
    tJs (fs.map fun f => TOf X.K X.mg W (RD X.K X.mg) f) acc σ m.h Q
  | [], acc, m, sg, st, rm, rs, hp => by
    obtain ⟨y, e, q⟩ := hp m (.str acc) (Ext.refl m) rm (.str acc)
    cases e
    exact q
  | f :: r, acc, m, sg, st, rm, rs, hp => by
    refine ⟨m, sg, st, rfl, rm, rs, Post.bindc (x := f sg st) hp fun m1 x v st1 e1 r1 q1 hp1 => ?_⟩
    split at hp1
    · rename_i y
      split at hp1
      · rename_i hl
        cases q1
        exact ⟨y, rfl, le_line.mp hl, js_of r1 (rs.mono e1) hp1⟩
      · exact False.elim hp1
    · exact False.elim hp1
theorem post_str {m : Hw} {σ : St} {Q : VK} : ∀ {fs : List EF} {acc : Str} {sg : Sg} {st : Sto}, Post X.K X.mg W.w m σ (RD X.K X.mg) Q (fJs fs acc sg st) → Post X.K X.mg W.w m σ (RD X.K X.mg) (fun v H3 => ∃ y, v = .str y ∧ Q (.str y) H3) (fJs fs acc sg st) := by
  intro fs acc sg st hp
  have key : ∀ (fs : List EF) (acc : Str) (sg : Sg) (st : Sto) d st2, fJs fs acc sg st = .ok d st2 → ∃ y, d = .str y := by
    intro fs
    induction fs with
    | nil => intro acc sg st d st2 e; cases e; exact ⟨_, rfl⟩
    | cons f r ih =>
      intro acc sg st d st2 e
      unfold fJs at e
      cases hf : f sg st with
      | ok x st1 =>
        rw [hf] at e
        dsimp only [Res.bind_ok] at e
        split at e
        · split at e
          · exact ih _ _ _ _ _ e
          · cases e
        · cases e
      | exc c o st1 => rw [hf] at e; cases e
      | bad => rw [hf] at e; cases e
  cases hz : fJs fs acc sg st with
  | ok d st1 =>
    rw [hz] at hp
    obtain ⟨y, rfl⟩ := key _ _ _ _ _ _ hz
    intro m' v e r q
    have := hp m' v e r q
    cases q
    exact ⟨y, rfl, this⟩
  | exc c o st1 => rw [hz] at hp; exact hp
  | bad => rw [hz] at hp; exact False.elim hp
theorem se_joined {fs : List EF} (h : SJ X W (e1 :: e2 :: es) fs) : SE X W (.JoinedStr (e1 :: e2 :: es) pos) (fJs fs Str.empty) :=
  pe_weak (pe_joined h.pj) fun σ H Q ⟨m, sg, st, em, rm, rs, hp⟩ => by
    subst em
    exact js_of rm rs (post_str hp)
/-- str(i), str(x) -/
def bStr : List D → Sto → Res D
  | [.int i], st => if i.natAbs.log2 < 1920 then .ok (.str (toString i)) st else .bad
  | [.str x], st => .ok (.str x) st
  | _, _ => .bad
theorem call_strA : CallR X (.type "str") (fun xs H Q => (∃ i, xs = [.int i] ∧ i.natAbs.log2 < 1920 ∧ Q (.str (toString i)) H) ∨ ∃ a, xs = [.str a] ∧ Q (.str a) H) := by
  intro pins s σ H xs us Q I r h
  rcases h with h | h
  · exact call_str_int pins s σ H xs us Q I r h
  · exact SkE.call_str_str pins s σ H xs us Q I r h
theorem fits_str : FitsL X W (fun xs H Q => (∃ i, xs = [.int i] ∧ i.natAbs.log2 < 1920 ∧ Q (.str (toString i)) H) ∨ ∃ a, xs = [.str a] ∧ Q (.str a) H) bStr := by
  intro m st σ l vs Q rm q hp
  unfold bStr at hp
  split at hp
  · split at hp
    · rename_i h
      cases q with
      | cons q1 q2 =>
        cases q1
        cases q2
        exact .inl ⟨_, rfl, h, hp.okc rm (.str _)⟩
    · exact False.elim hp
  · cases q with
    | cons q1 q2 =>
      cases q1
      cases q2
      exact .inr ⟨_, rfl, hp.okc rm (.str _)⟩
  · exact False.elim hp
end
end Sh
/-! Part R: dicts of the store. -/
namespace Sh
open PySem L2 He
def keyD : Key → D
  | .inl i => .int i
  | .inr x => .str x
def dKey : D → Option Key
  | .int i => some (.inl i)
  | .str x => some (.inr x)
  | _ => none
def putD (l : List (Key × D)) (k : Key) (d : D) : List (Key × D) := if (l.any fun kv => decide (kv.1 = k)) = true then l.map (fun kv => if kv.1 = k then (kv.1, d) else kv) else l ++ [(k, d)]
def mergeD (l more : List (Key × D)) : List (Key × D) := more.foldl (fun acc kv => putD acc kv.1 kv.2) l
section
variable {K : PySem.W.Frag} {mg : Str → Option Value} {r : List Addr} {G : Hp}
/-- pairs, as they stand in a dict -/
inductive KRel (K : PySem.W.Frag) (mg : Str → Option Value) (r : List Addr) (G : Hp) : List (Key × D) → List (Key × V) → Prop
  | nil : KRel K mg r G [] []
  | cons {k : Key} {d : D} {v : V} {l : List (Key × D)} {vs : List (Key × V)} (h : Rep K mg r G d v) (t : KRel K mg r G l vs) : KRel K mg r G ((k, d) :: l) ((k, v) :: vs)
theorem KRel.of : ∀ {l : List (Key × D)} {vs : List (Key × V)}, vs.map (·.1) = l.map (·.1) → Reps K mg r G (l.map (·.2)) (vs.map (·.2)) → KRel K mg r G l vs
  | [], [], _, _ => .nil
  | [], _ :: _, h, _ => by simp at h
  | _ :: _, [], h, _ => by simp at h
  | (k, d) :: l, (k', v) :: vs, h, q => by
    simp at h
    obtain ⟨h1, h2⟩ := h
    subst h1
    cases q with
    | cons q1 q2 => exact .cons q1 (KRel.of h2 q2)
theorem KRel.to {l : List (Key × D)} {vs : List (Key × V)} (h : KRel K mg r G l vs) : vs.map (·.1) = l.map (·.1) ∧ Reps K mg r G (l.map (·.2)) (vs.map (·.2)) := by
  induction h with
  | nil => exact ⟨rfl, .nil⟩
  | cons h t ih => exact ⟨by simp [ih.1], .cons h ih.2⟩
theorem KRel.any {l : List (Key × D)} {vs : List (Key × V)} (h : KRel K mg r G l vs) (k : Key) : (vs.any fun kv => decide (kv.1 = k)) = l.any fun kv => decide (kv.1 = k) := by
  induction h with
  | nil => rfl
  | cons h t ih => simp only [List.any_cons, ih]
theorem KRel.snoc {l : List (Key × D)} {vs : List (Key × V)} (h : KRel K mg r G l vs) {k : Key} {d : D} {v : V} (q : Rep K mg r G d v) : KRel K mg r G (l ++ [(k, d)]) (vs ++ [(k, v)]) := by
  induction h with
  | nil => exact .cons q .nil
  | cons h t ih => exact .cons h ih
theorem KRel.put {l : List (Key × D)} {vs : List (Key × V)} (h : KRel K mg r G l vs) {k : Key} {d : D} {v : V} (q : Rep K mg r G d v) : KRel K mg r G (putD l k d) (putK vs k v) := by
  unfold putD putK
  rw [h.any k]
  split
  · rename_i hh
    clear hh
    induction h with
    | nil => exact .nil
    | @cons k' d' v' l vs h t ih =>
      simp only [List.map_cons]
      by_cases e : k' = k
      · rw [if_pos e, if_pos e]; exact .cons q ih
      · rw [if_neg e, if_neg e]; exact .cons h ih
  · exact h.snoc q
theorem KRel.merge {more : List (Key × D)} {ms : List (Key × V)} (hm : KRel K mg r G more ms) : ∀ {l : List (Key × D)} {vs : List (Key × V)}, KRel K mg r G l vs → KRel K mg r G (mergeD l more) (mergeK vs ms) := by
  induction hm with
  | nil => intro l vs h; exact h
  | cons q t ih => intro l vs h; exact ih (h.put q)
def getD (l : List (Key × D)) (k : Key) : Option D := (l.find? fun kv => decide (kv.1 = k)).map (·.2)
theorem KRel.get {l : List (Key × D)} {vs : List (Key × V)} (h : KRel K mg r G l vs) (k : Key) : (getD l k = none ∧ valV vs k = none) ∨ ∃ d v, getD l k = some d ∧ valV vs k = some v ∧ Rep K mg r G d v := by
  induction h with
  | nil => exact .inl ⟨rfl, rfl⟩
  | @cons k' d' v' l vs h t ih =>
    by_cases e : k' = k
    · exact .inr ⟨d', v', by simp [getD, e], valV_pos e, h⟩
    · rcases ih with ⟨a, b⟩ | ⟨d, v, a, b, c⟩
      · exact .inl ⟨by unfold getD at a ⊢; simpa [e] using a, by rw [valV_neg e]; exact b⟩
      · exact .inr ⟨d, v, by unfold getD at a ⊢; simpa [e] using a, by rw [valV_neg e]; exact b, c⟩
end
section
variable {X : Cx} {W : We} {o e f : Expr} {fo fe ff : EF} {pos cpos apos : Pos}
/-- the pairs of a display -/
def fPairs : List (EF × EF) → Sg → Sto → Res (List (Key × D))
  | [], _, st => .ok [] st
  | (fk, fv) :: r, sg, st => (fk sg st).bind fun x st1 => (fv sg st1).bind fun y st2 => (fPairs r sg st2).bind fun l st3 => match dKey x with
    | some k => .ok ((k, y) :: l) st3
    | none => .bad
def dispF (ps : List (EF × EF)) (n : Nat) (sg : Sg) (st : Sto) : Res D := (fPairs ps sg (st ++ [.dict []])).bind fun l st1 => match st1[n]? with
  | some (.dict []) => if l.length ≤ 15 then .ok (.loc n) (st1.set n (.dict (mergeD [] l))) else .bad
  | _ => .bad
/-- {k: v, ..} : a dict of the store -/
def fDisp (ps : List (EF × EF)) : EF := fun sg st => dispF ps st.length sg st
inductive SPs (X : Cx) (W : We) : List (Option Expr) → List Expr → List (EF × EF) → Prop
  | nil : SPs X W [] [] []
  | cons {k v : Expr} {ks : List (Option Expr)} {vs : List Expr} {fk fv : EF} {ps : List (EF × EF)} (hk : SE X W k fk) (hv : SE X W v fv) (r : SPs X W ks vs ps) : SPs X W (some k :: ks) (v :: vs) ((fk, fv) :: ps)
theorem SPs.pps {ks : List (Option Expr)} {vs : List Expr} {ps : List (EF × EF)} (h : SPs X W ks vs ps) {pos : Pos} : PPs X pos ks vs (ps.map fun p => (TOf X.K X.mg W (RD X.K X.mg) p.1, TOf X.K X.mg W (RD X.K X.mg) p.2)) := by
  induction h with
  | nil => exact pps_nil
  | cons hk hv r ih => exact pps_cons hk hv ih
theorem key_rep {r : List Addr} {G : Hp} {x : D} {v : V} {k : Key} (h : Rep X.K X.mg r G x v) (e : dKey x = some k) : v = kV k := by
  cases x <;> first | (cases e; done) | skip
  · cases e; cases h; rfl
  · cases e; cases h; rfl
theorem pairs_of {σ : St} {Q : List (V × V) → Hp → Prop} : ∀ {ps : List (EF × EF)} {m : Hw} {sg : Sg} {st : Sto}, Rel X.K X.mg m st → SgRep X.K X.mg W.e m sg σ →
    Post X.K X.mg W.w m σ (fun m' (l : List (Key × D)) (vs : List (Key × V)) => KRel X.K X.mg m'.r m'.g l vs) (fun vs H3 => Q (vs.map fun kv => (kV kv.1, kv.2)) H3) (fPairs ps sg st) →
    tPairs (ps.map fun p => (TOf X.K X.mg W (RD X.K X.mg) p.1, TOf X.K X.mg W (RD X.K X.mg) p.2)) σ m.h Q
  | [], m, sg, st, rm, rs, hp => hp m [] (Ext.refl m) rm .nil
  | (fk, fv) :: ps, m, sg, st, rm, rs, hp => by
    refine ⟨m, sg, st, rfl, rm, rs, Post.bindc (x := fk sg st) hp fun m1 x v st1 e1 r1 q1 hp1 => ⟨m1, sg, st1, rfl, r1, rs.mono e1, hp1.bindc fun m2 y w st2 e2 r2 q2 hp2 => ?_⟩⟩
    refine pairs_of r2 (rs.mono (e1.trans e2)) (hp2.bindc fun m3 l vs st3 e3 r3 q3 hp3 => ?_)
    split at hp3
    · rename_i k hk
      have := key_rep q1 hk
      subst this
      exact hp3.okc r3 (v := (k, w) :: vs) (.cons (q2.mono e3) q3)
    · exact False.elim hp3
theorem se_disp {keys : List (Option Expr)} {values : List Expr} {ps : List (EF × EF)} (h : SPs X W keys values ps) (hall : keys.all (·.isSome) = true) (hl : keys.length = values.length) (h0 : keys ≠ []) (h15 : keys.length ≤ 15) : SE X W (.Dict keys values pos) (fDisp ps) :=
  pe_weak (pe_disp h.pps hall hl h0 h15) fun σ H Q ⟨m, sg, st, em, rm, rs, hp⟩ => by
    subst em
    intro p hn
    have e0 : Ext m (m.new p (.dK [])) := Ext.new rm hn
    have r0 : Rel X.K X.mg (m.new p (.dK [])) (st ++ [.dict []]) := rm.new hn ⟨[], upd_same, rfl, .nil⟩
    have at0 : (m.new p (.dK [])).r[st.length]? = some p := by
      show (m.r ++ [p])[st.length]? = _
      rw [← rm.len, List.getElem?_append_right (Nat.le_refl _)]
      simp
    have hp1 := Post.mono hp e0
    refine pairs_of r0 (rs.mono e0) (Post.bindc (x := fPairs ps sg (st ++ [.dict []])) hp1 fun m1 l vs st1 e1 r1 q1 hp2 => ?_)
    split at hp2
    · rename_i hd
      split at hp2
      · rename_i hlen
        obtain ⟨kvs, k1, k2, k3⟩ := r1.obj _ _ _ (e1.at_ at0) hd
        have : kvs = [] := by cases kvs with
          | nil => rfl
          | cons a b => simp at k2
        subst this
        have hlv : vs.length ≤ 15 := by
          have z := congrArg List.length (KRel.to q1).1
          simp at z
          omega
        refine ⟨k1, vs, rfl, hlv, ?_⟩
        have hm := q1.merge (l := []) (vs := []) .nil
        exact hp2 (m1.put p (.dK (mergeK [] vs))) (.ref p) (Ext.put (List.mem_of_getElem? (e1.at_ at0))) (r1.put (e1.at_ at0) ⟨_, upd_same, (KRel.to hm).1, (KRel.to hm).2⟩) (.loc (e1.at_ at0))
      · exact False.elim hp2
    · exact False.elim hp2
/-- d.get(k, x) -/
def kvS : Option SO → Option (List (Key × D))
  | some (.dict l) => some l
  | some (.lock l _ _) => some l
  | _ => none
@[simp] theorem kvS_dict (l : List (Key × D)) : kvS (some (.dict l)) = some l := rfl
@[simp] theorem kvS_lock (l : List (Key × D)) (o : Obj) (kvs : List (Key × V)) : kvS (some (.lock l o kvs)) = some l := rfl
def isDict : D → Sto → Bool
  | .loc n, st => (kvS st[n]?).isSome
  | _, _ => false
def dGet (x k z : D) (st : Sto) : Res D := match x, dKey k with
  | .loc n, some k => match kvS st[n]? with
    | some l => .ok ((getD l k).getD z) st
    | none => .bad
  | _, _ => .bad
theorem DGet.kR {H : Hp} {a : Addr} {kvs : List (Key × V)} {k : Key} (e : Rd H a (.dK kvs)) : DGet H a (kV k) (valV kvs k) := .inl ⟨kvs, k, e, rfl, rfl⟩
@[simp] def fGet2 (fo fe ff : EF) : EF := fun sg st => (fo sg st).bind fun x st1 => if isDict x st1 = true then ((fe sg st1).bind fun k st2 => (ff sg st2).bind fun z st3 => dGet x k z st3) else .bad
theorem dict_at {m : Hw} {st : Sto} {n : Nat} {l : List (Key × D)} {v : V} (rm : Rel X.K X.mg m st) (q : Rep X.K X.mg m.r m.g (.loc n) v) (e : st[n]? = some (.dict l)) : ∃ a kvs, v = .ref a ∧ m.h a = some (.dK kvs) ∧ KRel X.K X.mg m.r m.g l kvs := by
  cases q with
  | loc h1 =>
    obtain ⟨kvs, k1, k2, k3⟩ := rm.obj _ _ _ h1 e
    exact ⟨_, kvs, rfl, k1, KRel.of k2 k3⟩
theorem dict_rd {m : Hw} {st : Sto} {n : Nat} {l : List (Key × D)} {v : V} (rm : Rel X.K X.mg m st) (q : Rep X.K X.mg m.r m.g (.loc n) v) (e : kvS st[n]? = some l) : ∃ a kvs, v = .ref a ∧ Rd m.h a (.dK kvs) ∧ KRel X.K X.mg m.r m.g l kvs := by
  cases q with
  | loc h1 =>
    unfold kvS at e
    split at e
    · rename_i l' hl
      cases e
      obtain ⟨kvs, k1, k2, k3⟩ := rm.obj _ _ _ h1 hl
      exact ⟨_, kvs, rfl, .inl k1, KRel.of k2 k3⟩
    · rename_i l' o kvs hl
      cases e
      obtain ⟨k1, k2, k3⟩ := rm.obj _ _ _ h1 hl
      exact ⟨_, kvs, rfl, .inr ⟨_, k1⟩, KRel.of k2 k3⟩
    · cases e
theorem isDict_at {m : Hw} {st : Sto} {x : D} {v : V} (rm : Rel X.K X.mg m st) (q : Rep X.K X.mg m.r m.g x v) (e : isDict x st = true) : ∃ a, v = .ref a ∧ IsD m.h a := by
  unfold isDict at e
  split at e
  · obtain ⟨l, hl⟩ := Option.isSome_iff_exists.mp e
    obtain ⟨a, kvs, h1, h2, _⟩ := dict_rd rm q hl
    exact ⟨a, h1, .inl ⟨kvs, h2⟩⟩
  · cases e
theorem se_get2 (hu : X.A.units + 1 < cLine) (ho : SE X W o fo) (he : SE X W e fe) (hf : SE X W f ff) (m2 : M2 X o "get" apos e f cpos) : SE X W (.Call (.Attribute o "get" apos) [e, f] [] cpos) (fGet2 fo fe ff) :=
  pe_weak (pe_dget2 hu ho he hf m2) fun σ H Q ⟨m, sg, st, em, rm, rs, hp⟩ => ⟨m, sg, st, em, rm, rs, hp.bindc fun m1 x v st1 e1 r1 q1 hp1 => by
    split at hp1
    · rename_i hd
      obtain ⟨a, rfl, ia⟩ := isDict_at r1 q1 hd
      refine ⟨a, rfl, ia, m1, sg, st1, rfl, r1, rs.mono e1, hp1.bindc fun m2 k kv st2 e2 r2 q2 hp2 => ⟨m2, sg, st2, rfl, r2, (rs.mono e1).mono e2, hp2.bindc fun m3 z zv st3 e3 r3 q3 hp3 => ?_⟩⟩
      unfold dGet at hp3
      split at hp3
      · rename_i n k' hk
        split at hp3
        · rename_i l hl
          obtain ⟨a', kvs, ea, h2, h3⟩ := dict_rd r3 (q1.mono (e2.trans e3)) hl
          cases ea
          have := key_rep q2 hk
          subst this
          rcases h3.get k' with ⟨g1, g2⟩ | ⟨d, v, g1, g2, g3⟩
          · rw [g1] at hp3
            exact ⟨none, by rw [← g2]; exact DGet.kR h2, hp3.okc r3 q3⟩
          · rw [g1] at hp3
            exact ⟨some v, by rw [← g2]; exact DGet.kR h2, hp3.okc r3 g3⟩
        · exact False.elim hp3
      · exact False.elim hp3
    · exact False.elim hp1⟩
end
end Sh
/-! Part S: what a def made for itself is forgotten at its end. -/
namespace Sh
open PySem L2 He
def soPu : SO → Bool
  | .lst l => pus l
  | .dict l => pus (l.map (·.2))
  | .ins _ l => pus l
  | .lock _ _ _ => false
open Classical in
noncomputable def cutF (F : FF) : FF := fun ds st => match F ds st with
  | .ok d st2 => if pu d = true ∧ (st2.take st.length).all soPu = true then .ok d (st2.take st.length) else .bad
  | .exc c none st2 => if (st2.take st.length).all soPu = true then .exc c none (st2.take st.length) else .bad
  | .exc c (some d) st2 => if pu d = true ∧ (st2.take st.length).all soPu = true then .exc c (some d) (st2.take st.length) else .bad
  | .bad => .bad
section
variable {K : PySem.W.Frag} {mg : Str → Option Value} {W : WX} {σ : St} {m : Hw}
theorem ext_cut {m' : Hw} (e : Ext m m') : Ext m ⟨m.r, m'.g, m'.h⟩ := ⟨⟨[], by simp⟩, e.g, fun a u q n => let ⟨j1, _, j3⟩ := e.fr a u q n; ⟨j1, n, j3⟩⟩
theorem rel_cut2 {m' : Hw} {st st2 : Sto} (R : Rel K mg m st) (R' : Rel K mg m' st2) (e : Ext m m') (h : (st2.take st.length).all soPu = true) : Rel K mg ⟨m.r, m'.g, m'.h⟩ (st2.take st.length) := by
  obtain ⟨t, ht⟩ := e.pre
  have hl : st.length ≤ st2.length := by
    rw [← R.len, ← R'.len, ht]
    simp
  refine ⟨R'.sub, ?_, R.nd, fun a z => R'.off a (by rw [ht]; exact List.mem_append_left _ z), fun n a so e1 e2 => ?_⟩
  · rw [List.length_take, R.len]; omega
  · have e1 : m.r[n]? = some a := e1
    have hn : n < st.length := by rw [← R.len]; exact (List.getElem?_eq_some_iff.mp e1).1
    have hp : soPu so = true := List.all_eq_true.mp h so (List.mem_of_getElem? e2)
    rw [List.getElem?_take_of_lt hn] at e2
    have q := R'.obj n a so (e.at_ e1) e2
    cases so with
    | lst l => obtain ⟨vs, a1, a2⟩ := q; exact ⟨vs, a1, reps_pu _ _ hp a2⟩
    | dict l => obtain ⟨vs, a1, a2, a3⟩ := q; exact ⟨vs, a1, a2, reps_pu _ _ hp a3⟩
    | ins c l => obtain ⟨C, dx, fs, a1, a2, a3, a4⟩ := q; exact ⟨C, dx, fs, a1, a2, a3, reps_pu _ _ hp a4⟩
    | lock l o kvs => cases hp
theorem cut_post {F : FF} {ds : List D} {st : Sto} {Q : VK} (rm : Rel K mg m st) (hp : Post K mg W m σ (RD K mg) Q (cutF F ds st)) : Post K mg W m σ (RD K mg) Q (F ds st) := by
  unfold cutF at hp
  split at hp
  · rename_i d st2 hf
    rw [hf]
    split at hp
    · rename_i h
      exact fun m' v e r q => hp ⟨m.r, m'.g, m'.h⟩ v (ext_cut e) (rel_cut2 rm r e h.2) (rep_pu _ _ h.1 q)
    · exact False.elim hp
  · rename_i c st2 hf
    rw [hf]
    split at hp
    · rename_i h
      exact fun m' cls dx e r x => hp ⟨m.r, m'.g, m'.h⟩ cls dx (ext_cut e) (rel_cut2 rm r e h) x
    · exact False.elim hp
  · rename_i c d st2 hf
    rw [hf]
    split at hp
    · rename_i h
      exact fun m' cls dx e r x => hp ⟨m.r, m'.g, m'.h⟩ cls dx (ext_cut e) (rel_cut2 rm r e h.2) (by
        obtain ⟨C, h1, h2, a, v, h3, h4, h5⟩ := x
        exact ⟨C, h1, h2, a, v, h3, h4, rep_pu _ _ h.1 h5⟩)
    · exact False.elim hp
  · exact False.elim hp
theorem spF_cut {n : Nat} {F : FF} {vs : List V} {H : Hp} {Q : VK} {E : XK} (h : spF K mg n (cutF F) vs H Q E) : spF K mg n F vs H Q E := by
  obtain ⟨m, ds, st, h1, h2, h3, h4, h5⟩ := h
  exact ⟨m, ds, st, h1, h2, h3, h4, cut_post h2 h5⟩
/-- a def whose own things are forgotten -/
theorem DefOk.cut {P : Program} {w : World} {base : Heap} {k : Nat} {f : Addr} {ps : List Str} {dvs : List V} {F : FF} (h : DefOk P w K mg base k f ps dvs F) : DefOk P w K mg base k f ps dvs (cutF F) := by
  obtain ⟨⟨fd, h1, h2, h3⟩, h4⟩ := h
  exact ⟨⟨fd, h1.imp fun vs H Q E z => spF_cut z, h2, h3⟩, h4⟩
/-- the same; a list that is given back is only read from then on -/
noncomputable def frzF (F : FF) : FF := fun ds st => match F ds st with
  | .ok (.loc n) st2 => if st.length ≤ n ∧ (st2.take st.length).all soPu = true then (match st2[n]? with
    | some (.lst l) => if pus l = true then .ok (.lst l) (st2.take st.length) else .bad
    | _ => .bad) else .bad
  | _ => cutF F ds st
theorem frz_post {F : FF} {ds : List D} {st : Sto} {Q : VK} (rm : Rel K mg m st) (hp : Post K mg W m σ (RD K mg) Q (frzF F ds st)) : Post K mg W m σ (RD K mg) Q (F ds st) := by
  unfold frzF at hp
  split at hp
  · rename_i n st2 hf
    rw [hf]
    split at hp
    · rename_i h
      obtain ⟨hn, ho⟩ := h
      split at hp
      · rename_i l hl
        split at hp
        · rename_i hpu
          intro m' v e r q
          cases q with
          | @loc _ a ha =>
            obtain ⟨vs, h1, h2⟩ := r.obj _ _ _ ha hl
            have ga : m'.g a = none := r.off a (List.mem_of_getElem? ha)
            have na : a ∉ m.r := fun hm => by
              obtain ⟨i, hi⟩ := List.getElem?_of_mem hm
              have hj := e.at_ hi
              have := nodup_ix' r.nd hj ha
              have hlt : i < m.r.length := (List.getElem?_eq_some_iff.mp hi).1
              rw [rm.len] at hlt
              omega
            have up : ∀ b u, m'.g b = some u → upd m'.g a (.lst vs) b = some u := fun b u z => by rw [upd_ne (ne_of_none z ga)]; exact z
            have r2 := rel_cut2 rm r e ho
            have hna : ∀ u, m.h a = some u → a ∉ m.r → False := fun u z n' => (e.fr a u z n').2.1 (List.mem_of_getElem? ha)
            refine hp ⟨m.r, upd m'.g a (.lst vs), m'.h⟩ (.ref a) ⟨⟨[], by simp⟩, fun b u z => up b u (e.g b u z), fun b u z n' => ?_⟩ ⟨fun b u z => ?_, r2.len, r2.nd, fun b z => ?_, fun i b so z1 z2 => ?_⟩ (.lst upd_same (reps_pu _ _ hpu (Reps.mono' (fun _ _ z => z) up _ _ h2)))
            · obtain ⟨j1, _, j3⟩ := e.fr b u z n'
              refine ⟨j1, n', fun z0 => ?_⟩
              have hb : b ≠ a := fun q => by subst q; exact hna u z n'
              show upd m'.g a (.lst vs) b = none
              rw [upd_ne hb]; exact j3 z0
            · have z : upd m'.g a (.lst vs) b = some u := z
              by_cases hb : b = a
              · subst hb; rw [upd_same] at z; cases z; exact h1
              · rw [upd_ne hb] at z; exact r.sub b u z
            · have hb : b ≠ a := fun q => na (q ▸ z)
              show upd m'.g a (.lst vs) b = none
              rw [upd_ne hb]; exact r2.off b z
            · exact (r2.obj i b so z1 z2).mono' (fun _ _ z => z) up fun _ z => z
        · exact False.elim hp
      · exact False.elim hp
    · exact False.elim hp
  · exact cut_post rm hp
theorem spF_frz {n : Nat} {F : FF} {vs : List V} {H : Hp} {Q : VK} {E : XK} (h : spF K mg n (frzF F) vs H Q E) : spF K mg n F vs H Q E := by
  obtain ⟨m, ds, st, h1, h2, h3, h4, h5⟩ := h
  exact ⟨m, ds, st, h1, h2, h3, h4, frz_post h2 h5⟩
theorem DefOk.frz {P : Program} {w : World} {base : Heap} {k : Nat} {f : Addr} {ps : List Str} {dvs : List V} {F : FF} (h : DefOk P w K mg base k f ps dvs F) : DefOk P w K mg base k f ps dvs (frzF F) := by
  obtain ⟨⟨fd, h1, h2, h3⟩, h4⟩ := h
  exact ⟨⟨fd, h1.imp fun vs H Q E z => spF_frz z, h2, h3⟩, h4⟩
end
end Sh
/-! Part T: what is walked: any sequence, enumerate, zip, a range with a step. -/
namespace Sh
open PySem PySem.Spec PyProof.Rows L2
/-! any sequence -/
section
variable {X : Cx} {tg e : Expr} {te : TE}
def iSqA (K : PySem.W.Frag) (te : TE) : TI := fun σ H R => te σ H fun x H1 => (∃ a, x = .ref a ∧ (∃ xs, SqL K H1 a xs) ∧ R (Itl K a) H1) ∨ (∃ a, x = .ref a ∧ (∃ xs, SqT K H1 a xs) ∧ R (Itt K a) H1) ∨ ∃ z, x = .str z ∧ R (Its z) H1
theorem pi_sqA (he : PE X e te) : PI X tg e (iSqA X.K te) := by
  refine ⟨fun pins s σ H R I h => ?_⟩
  refine thn (he.run pins s σ H _ I h) fun v s1 ⟨x, H1, I1, r1, q1⟩ => ?_
  rcases q1 with ⟨a, e, ⟨xs, hq⟩, q⟩ | ⟨a, e, ⟨xs, hq⟩, q⟩ | ⟨x, ex, q⟩
  · subst e
    cases r1
    obtain ⟨its, rv, p, hz⟩ := I1.list hq
    refine wpAny_pyIter_list p.isList ?_
    refine ⟨s1.heap.objs.size, [s1.heap.objs.size], _, _, H1, rfl, I1.kept (t' := s1.toks) fun b o e => Heap.get?_push_of_some _ e, turn_list a _, ⟨_, Heap.get?_push_size _ rfl, rfl, rfl⟩, fun b hb => ?_, q⟩
    have e : b = s1.heap.objs.size := by simpa using hb
    subst e
    exact I1.fpOk (Nat.le_refl _) (I1.hok.fresh (Nat.le_refl _))
  · subst e
    cases r1
    obtain ⟨its, rv, p, hz⟩ := I1.tuple hq
    refine wpAny_pyIter_tuple (show s1.heap.IsTuple a its.toArray from p) ?_
    refine ⟨s1.heap.objs.size, [s1.heap.objs.size], _, _, H1, rfl, I1.kept (t' := s1.toks) fun b o e => Heap.get?_push_of_some _ e, turn_tuple a _, ⟨_, Heap.get?_push_size _ rfl, rfl, rfl⟩, fun b hb => ?_, q⟩
    have e : b = s1.heap.objs.size := by simpa using hb
    subst e
    exact I1.fpOk (Nat.le_refl _) (I1.hok.fresh (Nat.le_refl _))
  · subst ex
    obtain ⟨t, rfl⟩ := r1
    cases ha : x.cps.all (· < 128)
    · exact wpAny_pyIter_wide ha (pi_one (tk := s1.toks) I1 _ (turn_str _ x t "str_iterator" (.inr rfl)) ⟨_, Heap.get?_push_size _ rfl, rfl, rfl⟩ q)
    · exact wpAny_pyIter_ascii ha (pi_one (tk := s1.toks) I1 _ (turn_str _ x t "str_ascii_iterator" (.inl rfl)) ⟨_, Heap.get?_push_size _ rfl, rfl, rfl⟩ q)
end
def chD (x : Str) : List D := x.cps.toList.map fun c => .str ⟨#[c]⟩
theorem its_ok {K : PySem.W.Frag} {mg : Str → Option Value} {m : Hw} {x : Str} {ck : Sto → Prop} : ItOk K mg m (Its x) (chD x) ck := by
  intro m1 st1 e1 r1 c1 i
  refine ⟨fun hl => by
    have hl' : x.cps.toList.length ≤ i := by simpa [chD] using hl
    have : x.cps.size ≤ i := by simpa using hl'
    exact this, fun d hd => ?_⟩
  unfold chD at hd
  rw [List.getElem?_map] at hd
  obtain ⟨c, h1, h2⟩ := Option.map_eq_some_iff.mp hd
  subst h2
  have hi : i < x.cps.toList.length := (List.getElem?_eq_some_iff.mp h1).1
  refine ⟨(by simpa using hi : i < x.cps.size), fun v H' ⟨e, c', hc, hv⟩ => ⟨m1, e.symm, Ext.refl _, r1, ?_⟩⟩
  have h3 : x.cps[i]? = some c := by simpa using h1
  rw [h3] at hc
  cases hc
  rw [hv]
  exact .str _
section
variable {X : Cx} {W : We} {tg iter e e2 a b c : Expr} {f : EF} {g : AF} {p pos tpos : Pos} {elts : List Expr} {kk : Nat}
@[simp] def iAny (f : EF) : IF := fun sg st => (f sg st).bind fun x st1 => match x with
  | .lst l => .ok ⟨l, fun _ => True⟩ st1
  | .tup l => .ok ⟨l, fun _ => True⟩ st1
  | .scr l => .ok ⟨l.map .int, fun _ => True⟩ st1
  | .str x => .ok ⟨chD x, fun _ => True⟩ st1
  | .loc n => match st1[n]? with
    | some (.lst l) => .ok ⟨l, fun st => st[n]? = some (.lst l)⟩ st1
    | _ => .bad
  | _ => .bad
theorem si_any (he : SE X W iter f) : SI X W tg iter (iAny f) :=
  pi_weak (pi_sqA he) fun σ H R ⟨m, sg, st, e, rm, rs, hp⟩ => ⟨m, sg, st, e, rm, rs, hp.bindc fun m1 x v st1 e1 r1 q1 hp1 => by
    split at hp1
    · cases q1 with
      | lst h1 h2 => exact .inl ⟨_, rfl, ⟨_, .of (r1.sub _ _ h1)⟩, hp1.okc r1 (itl_ok fun m2 st2 e2 r2 _ => ⟨_, .of (r2.sub _ _ (e2.g _ _ h1)), h2.mono e2⟩)⟩
    · cases q1 with
      | tup h1 h2 => exact .inr (.inl ⟨_, rfl, ⟨_, sqT_mono r1.sub h1⟩, hp1.okc r1 (itt_ok fun m2 st2 e2 r2 _ => ⟨_, sqT_mono r2.sub (sqT_mono e2.g h1), h2.mono e2⟩)⟩)
    · cases q1 with
      | scr h1 => exact .inl ⟨_, rfl, ⟨_, sqL_mono r1.sub h1⟩, hp1.okc r1 (itl_ok fun m2 st2 e2 r2 _ => ⟨_, sqL_mono r2.sub (sqL_mono e2.g h1), reps_ints (X := X) _⟩)⟩
    · cases q1
      exact .inr (.inr ⟨_, rfl, hp1.okc r1 its_ok⟩)
    · cases q1 with
      | loc h1 =>
        split at hp1
        · rename_i l hl
          obtain ⟨vs, k1, k2⟩ := r1.obj _ _ _ h1 hl
          refine .inl ⟨_, rfl, ⟨_, .of k1⟩, hp1.okc r1 (itl_ok fun m2 st2 e2 r2 hc => ?_)⟩
          obtain ⟨ws, k3, k4⟩ := r2.obj _ _ _ (e2.at_ h1) hc
          exact ⟨ws, .of k3, k4⟩
        · exact False.elim hp1
    · exact False.elim hp1⟩
end
/-! enumerate of a tuple -/
theorem meets_enumT (l : Addr) (items : Array Value) :
    Meets (Builtin.«enumerate.__new__» ⟨[.type "enumerate", .ref l], []⟩) (fun _ R s => s.heap.IsTuple l items ∧
      R (.ok (.ret (.ref (s.heap.push { cls := .type "tuple_iterator", data := .fields #[.ref l, .int 0 0] }).objs.size)))
        { s with heap := (s.heap.push { cls := .type "tuple_iterator", data := .fields #[.ref l, .int 0 0] }).push { cls := .type "enumerate", data := .fields #[.none, .bool false, .ref s.heap.objs.size, rawInt 0, .none, .none] } }) :=
  .of_wp fun prog w A R s h => by
    obtain ⟨hp, g, d, tk, os⟩ := s; obtain ⟨hl, h⟩ := h
    have hsub := sub_enumerate
    have q1 : ∀ {A' : Around} {E : Value → Shared → Prop} {Q : Value → Shared → Prop}, Q (.ref hp.objs.size) ⟨hp.push { cls := .type "tuple_iterator", data := .fields #[.ref l, .int 0 0] }, g, d, tk, os⟩ → wpAny (model prog w) A' (pyIter (.ref l)) Q E ⟨hp, g, d, tk, os⟩ :=
      fun q => wpAny_pyIter_tuple hl q
    wp_walk using q1
    refine wpAny_stack_any fun st => wpAny_pure ?_
    split
    · rename_i c _ _ _ _ _
      cases (c == Value.type "enumerate")
      · wp_walk using q1
        exact ⟨_, rfl, h⟩
      · wp_walk using q1
        exact ⟨_, rfl, h⟩
    · wp_walk using q1
      exact ⟨_, rfl, h⟩
theorem call_enumT {prog : Program} {w : World} {A : Around} {E : Value → Shared → Prop} {s : Shared} {l : Addr} {items : Array Value} {Q : Value → Shared → Prop} (hL : s.heap.IsTuple l items)
    (h : ∀ h', IsEnum h' (s.heap.objs.size + 1) s.heap.objs.size 0 .none → h'.IsTupleIter s.heap.objs.size l 0 → h'.objs.size = s.heap.objs.size + 2 →
      (∀ b o, s.heap.get? b = some o → h'.get? b = some o) → Q (.ref (s.heap.objs.size + 1)) { s with heap := h' }) :
    wpAny (model prog w) A (call (.type "enumerate") [.ref l]) Q E s := by
  refine callType_new F.called_enumerate (by decide) (F.typeCall_enumerate_1 _) (F.newCall_enumerate_1 _) (fun obj => F.args_object_init_2 obj _) F.entry_enumerate_new
    (meets_enumT l items) ⟨hL, ?_⟩
  have hz : (s.heap.push { cls := .type "tuple_iterator", data := .fields #[.ref l, .int 0 0] }).objs.size = s.heap.objs.size + 1 := Heap.size_push ..
  show _ ∧ _
  rw [hz]
  have he : IsEnum ((s.heap.push { cls := .type "tuple_iterator", data := .fields #[.ref l, .int 0 0] }).push
      { cls := .type "enumerate", data := .fields #[.none, .bool false, .ref s.heap.objs.size, rawInt 0, .none, .none] }) (s.heap.objs.size + 1) s.heap.objs.size 0 .none := by
    have := Heap.get?_push_size (s.heap.push { cls := .type "tuple_iterator", data := .fields #[.ref l, .int 0 0] })
      (o := { cls := .type "enumerate", data := .fields #[.none, .bool false, .ref s.heap.objs.size, rawInt 0, .none, .none] }) rfl
    rw [hz] at this; exact this
  refine ⟨⟨_, he, rfl⟩, h _ he ⟨_, Heap.get?_push_of_some _ (Heap.get?_push_size _ rfl), rfl, rfl⟩ (by rw [Heap.size_push, hz]) fun b o x => Heap.get?_push_of_some _ (Heap.get?_push_of_some _ x)⟩
def IteT (K : PySem.W.Frag) (a : Addr) : It :=
  ⟨fun i H => ∃ (xs : List V) (x : V), SqT K H a xs ∧ xs[i]? = some x, fun i H v H' => ∃ T x, v = .ref T ∧ H T = none ∧ H' = upd H T (.tup [.int (i : Nat), x]) ∧ ∀ xs, SqT K H a xs → xs[i]? = some x, fun i H => ∃ xs : List V, SqT K H a xs ∧ xs.length ≤ i⟩
theorem turn_enumT {P : Program} {w : World} {K : PySem.W.Frag} {elts : List Expr} {kk : Nat} {tpos : Pos} (a e it : Addr) :
    Turn P w K (.Tuple elts kk tpos) (IteT K a) [e, it] e (fun i h => (∃ old, IsEnum h e it ((i : Nat) : Int) old) ∧ h.IsTupleIter it a i ∧ e ≠ it) where
  mem := by simp
  obj := fun i h st b hb => by
    obtain ⟨⟨old, he⟩, ⟨o, ho, hc, hd⟩, _⟩ := st
    have e' : b = e ∨ b = it := by simpa using hb
    rcases e' with z | z
    · rw [z]; exact ⟨_, he, fun v q => nomatch q⟩
    · rw [z]; exact ⟨o, ho, fun v q => by rw [hd] at q; cases q⟩
  keep := fun i h h' st k => let ⟨⟨old, he⟩, hi, hne⟩ := st; ⟨⟨old, k e (by simp) _ he⟩, hi.at fun o q => k it (by simp) o q, hne⟩
  item := by
    intro X hP hw hK hc i pins s σ H E I hf st hg
    subst hP hw hK
    obtain ⟨⟨old, he⟩, hit, hne⟩ := st
    obtain ⟨xs, x, hq, hx⟩ := hg
    obtain ⟨its, rv, p, hz⟩ := I.tuple hq
    obtain ⟨u, hu, ru⟩ := rv.get hx
    have hel : e < s.heap.objs.size := Heap.lt_size he
    have hil : it < s.heap.objs.size := by obtain ⟨_, q, _⟩ := hit; exact Heap.lt_size q
    have hat : its.toArray[i]? = some u := by simpa using hu
    have hne2 : a ≠ it := fun z => by
      obtain ⟨o1, q1, q2, _⟩ := hit
      obtain ⟨o2, w1, w2, _⟩ := show s.heap.IsTuple a its.toArray from p
      rw [z, q1] at w1
      cases w1
      rw [q2] at w2
      exact absurd (Value.type.inj w2) (by decide)
    have hne3 : e ≠ a := fun z => by
      obtain ⟨o2, w1, w2, _⟩ := show s.heap.IsTuple a its.toArray from p
      rw [← z] at w1
      have he' : s.heap.get? e = some _ := he
      rw [he'] at w1
      cases w1
      exact absurd (Value.type.inj w2) (by decide)
    have hn : i < its.toArray.size := (Array.getElem?_eq_some_iff.mp hat).1
    have hh : X.A.in1.handled = none := I.ok.hd hc
    refine wpAny_pyNext_enum_itemD (Draws.tuple hh it a hne2 its.toArray) he ⟨hit, p⟩ hn hne (by simp [hne, hne3]) fun y h' tk hy ho hst hT hsz hk => ?_
    rw [hat] at hy
    cases hy
    refine ⟨_, rfl, wpAny_letOwnedTupleGo_enum (s := { s with heap := h', toks := tk + 1 }) ho fun h'' he' sb => ?_⟩
    have hT2 : h''.get? s.heap.objs.size = some { cls := .type "tuple", data := .seq #[.int i tk, u] } := (sb.2 _ (Nat.ne_of_gt hel)).trans hT
    have new : ObjOk X.prog X.w (upd H s.heap.objs.size (.tup [.int (i : Nat), x])) h'' s.heap.objs.size (.tup [.int (i : Nat), x]) :=
      ⟨by show 2 ≤ sizeLine; decide, [.int i tk, u], .cons ⟨_, rfl⟩ (.cons ru .nil), ⟨_, hT2, rfl, _, rfl⟩⟩
    have I1 : Inv X pins σ (upd H s.heap.objs.size (.tup [.int (i : Nat), x])) { s with heap := h'', toks := tk + 1 } :=
      I.turnedNew (ch := [e, it]) (fun b ob hb q => (sb.2 b (fun z => hb (by simp [z]))).trans (hk b ob (fun z => hb (by simp [z])) (fun z => hb (by simp [z])) q)) hf (Nat.le_refl _) new
    refine ⟨.ref s.heap.objs.size, _, I1, rfl, ⟨_, x, rfl, I.hok.fresh (Nat.le_refl _), rfl, fun ys hy => by rw [I.tuple_inj hy hq]; exact hx⟩, ⟨⟨u, ?_⟩, hst.1.at fun o q => (sb.2 it (Ne.symm hne)).trans q, hne⟩, fun b hb => ?_⟩
    · have e1 : ((i + 1 : Nat) : Int) = (i : Int) + 1 := by omega
      rw [e1]; exact he'
    · have hb' : b < s.heap.objs.size := by
        have e' : b = e ∨ b = it := by simpa using hb
        rcases e' with z | z
        · rw [z]; exact hel
        · rw [z]; exact hil
      rw [upd_ne (Nat.ne_of_lt hb')]
      exact (hf b hb).1
  done := by
    intro X hP hw hK hc i pins s σ H E I hf st hg
    subst hP hw hK
    obtain ⟨⟨old, he⟩, hit, hne⟩ := st
    obtain ⟨xs, hq, hx⟩ := hg
    obtain ⟨its, rv, p, hz⟩ := I.tuple hq
    obtain ⟨f0, f1, f2, f3, f4, f5⟩ := hf it (by simp)
    have hl := rv.length
    have hh : X.A.in1.handled = none := I.ok.hd hc
    have hne2 : a ≠ it := fun z => by
      obtain ⟨o1, q1, q2, _⟩ := hit
      obtain ⟨o2, w1, w2, _⟩ := show s.heap.IsTuple a its.toArray from p
      rw [z, q1] at w1
      cases w1
      rw [q2] at w2
      exact absurd (Value.type.inj w2) (by decide)
    have hi : its.toArray[i]? = none := by simp; omega
    unfold pyNext
    have hT : s.TypeIs (.ref e) "enumerate" := ⟨_, he, rfl⟩
    refine wpAny_bind (wpAny_attempt (wpAny_callSpecial?_slot (name := Str.ofString "__next__") hT F.slot_enumerate_next
      (wpAny_call_entry F.slot_enumerate_next hT F.entry_enumerate_next ?_ (F.args_enumerate_next_1 _))))
    show wpAny _ _ (field (.ref e) 2 >>= _) _ _ _
    refine wpAny_bind (wpAny_field he rfl (x := .ref it) rfl ?_)
    refine wpAny_bind (wpAny_nextOf_tuple_end hh hit (show s.heap.IsTuple a its.toArray from p) hi fun h' x he' hx' => ?_)
    obtain ⟨o, ho, hc'⟩ := hx'
    refine wpAny_bind (wpAny_isInstance (T := "StopIteration") (b := true) ⟨o, ho, hc'⟩ isSubtype_stop ?_)
    exact wpAny_pure ⟨rfl, I.turned (t' := s.toks) (fun b o hb q => he' b o hb q) f0 f1 f3 f4 f5⟩
  self := fun A i s Q E st h => let ⟨⟨_, he⟩, _⟩ := st; wpAny_pyIter_enum he h
def iEnumA (K : PySem.W.Frag) (ta : TA) : TI := fun σ H R => ta σ H fun vs H1 => ∃ a xs, vs = [.ref a] ∧ ((SqL K H1 a xs ∧ R (Ite K a) H1) ∨ (SqT K H1 a xs ∧ R (IteT K a) H1))
theorem pi_enumA {X : Cx} {e : Expr} {ta : TA} {p pos tpos : Pos} {elts : List Expr} {kk : Nat} (hg : Gl X "enumerate") (hm : X.mg "enumerate" = none) (ha : PA X [e] ta) (hs : starEach [e] X.env = [(false, eval e X.env)] := by rfl) :
    PI X (.Tuple elts kk tpos) (.Call (.Name "enumerate" p) [e] [] pos) (iEnumA X.K ta) := by
  refine ⟨fun pins s σ H R I h => ?_⟩
  refine Call_ (ld_blt I hg hm boot_enumerate (PyProof.Rows.callWith_type1 (thn (ha.run pos pins s σ H _ I h) fun us s1 ⟨vs, H1, I1, r1, q1⟩ => ?_) hs rfl))
  obtain ⟨a, xs, ex, hq⟩ := q1
  subst ex
  cases r1 with
  | cons r rr =>
    cases rr
    cases r
    have fin : ∀ {h' : Heap}, ∀ b ∈ [s1.heap.objs.size + 1, s1.heap.objs.size], FpOk X pins H1 b := fun b hb => by
      have e' : b = s1.heap.objs.size + 1 ∨ b = s1.heap.objs.size := by simpa using hb
      have hle : s1.heap.objs.size ≤ b := by
        rcases e' with z | z
        · rw [z]; exact Nat.le_add_right _ _
        · rw [z]; exact Nat.le_refl _
      exact I1.fpOk hle (I1.hok.fresh hle)
    rcases hq with ⟨hq, q⟩ | ⟨hq, q⟩
    · obtain ⟨its, rv, p', hz⟩ := I1.list hq
      refine call_enumerate_list p'.isList fun h' he hit hsz hk => wpAny_pyIter_enum he ?_
      have I2 : Inv X pins σ H1 { s1 with heap := h' } := I1.kept (t' := s1.toks) hk
      exact ⟨s1.heap.objs.size + 1, [s1.heap.objs.size + 1, s1.heap.objs.size], _, _, H1, rfl, I2, turn_enum a (s1.heap.objs.size + 1) s1.heap.objs.size, ⟨⟨.none, he⟩, hit, Nat.succ_ne_self _⟩, fin (h' := h'), q⟩
    · obtain ⟨its, rv, p', hz⟩ := I1.tuple hq
      refine call_enumT (show s1.heap.IsTuple a its.toArray from p') fun h' he hit hsz hk => wpAny_pyIter_enum he ?_
      have I2 : Inv X pins σ H1 { s1 with heap := h' } := I1.kept (t' := s1.toks) hk
      exact ⟨s1.heap.objs.size + 1, [s1.heap.objs.size + 1, s1.heap.objs.size], _, _, H1, rfl, I2, turn_enumT a (s1.heap.objs.size + 1) s1.heap.objs.size, ⟨⟨.none, he⟩, hit, Nat.succ_ne_self _⟩, fin (h' := h'), q⟩
/-- the pairs of enumerate -/
def enumF (i : Nat) : List D → List D
  | [] => []
  | d :: l => .tup [.int (i : Nat), d] :: enumF (i + 1) l
theorem enumF_get : ∀ (l : List D) (i j : Nat) (d : D), (enumF i l)[j]? = some d → ∃ x, l[j]? = some x ∧ d = .tup [.int ((i + j : Nat) : Int), x]
  | [], _, _, _, h => by simp [enumF] at h
  | x :: l, i, 0, d, h => by
    simp [enumF] at h
    exact ⟨x, rfl, by rw [← h]; simp⟩
  | x :: l, i, j + 1, d, h => by
    simp only [enumF, List.getElem?_cons_succ] at h
    obtain ⟨y, h1, h2⟩ := enumF_get l (i + 1) j d h
    exact ⟨y, by simpa using h1, by rw [h2]; congr 4; omega⟩
theorem enumF_len : ∀ (l : List D) (i : Nat), (enumF i l).length = l.length
  | [], _ => rfl
  | _ :: l, i => by simp [enumF, enumF_len l]
/-- a new pair, laid -/
theorem pair_ok {K : PySem.W.Frag} {mg : Str → Option Value} {m : Hw} {st : Sto} {T : Addr} {x y : V} {d d' : D} (r : Rel K mg m st) (hT : m.h T = none) (h1 : Rep K mg m.r m.g d x) (h2 : Rep K mg m.r m.g d' y) :
    ∃ m2, m2.h = upd m.h T (.tup [x, y]) ∧ Ext m m2 ∧ Rel K mg m2 st ∧ Rep K mg m2.r m2.g (.tup [d, d']) (.ref T) :=
  ⟨m.lay T (.tup [x, y]), rfl, Ext.lay r hT, r.lay hT, .tup (.of upd_same) (.cons (h1.mono (Ext.lay r hT)) (.cons (h2.mono (Ext.lay r hT)) .nil))⟩
theorem ite_ok {K : PySem.W.Frag} {mg : Str → Option Value} {m : Hw} {a : Addr} {l : List D} {ck : Sto → Prop} (h : ∀ m1 st1, Ext m m1 → Rel K mg m1 st1 → ck st1 → ∃ vs, SqL K m1.h a vs ∧ Reps K mg m1.r m1.g l vs) : ItOk K mg m (Ite K a) (enumF 0 l) ck := by
  intro m1 st1 e1 r1 c1 i
  obtain ⟨vs, h1, h2⟩ := h m1 st1 e1 r1 c1
  refine ⟨fun hl => ⟨vs, h1, by rw [← h2.length]; rwa [enumF_len] at hl⟩, fun d hd => ?_⟩
  obtain ⟨x, hx, rfl⟩ := enumF_get _ _ _ _ hd
  obtain ⟨v, k1, k2⟩ := h2.get hx
  refine ⟨⟨vs, v, h1, k1⟩, fun y H' ⟨T, z, e2, hT, e3, hz⟩ => ?_⟩
  have := hz vs h1
  rw [k1] at this
  cases this
  subst e2
  rw [e3]
  exact pair_ok r1 hT (by simpa using .int _) k2
theorem itet_ok {K : PySem.W.Frag} {mg : Str → Option Value} {m : Hw} {a : Addr} {l : List D} {ck : Sto → Prop} (h : ∀ m1 st1, Ext m m1 → Rel K mg m1 st1 → ck st1 → ∃ vs, SqT K m1.h a vs ∧ Reps K mg m1.r m1.g l vs) : ItOk K mg m (IteT K a) (enumF 0 l) ck := by
  intro m1 st1 e1 r1 c1 i
  obtain ⟨vs, h1, h2⟩ := h m1 st1 e1 r1 c1
  refine ⟨fun hl => ⟨vs, h1, by rw [← h2.length]; rwa [enumF_len] at hl⟩, fun d hd => ?_⟩
  obtain ⟨x, hx, rfl⟩ := enumF_get _ _ _ _ hd
  obtain ⟨v, k1, k2⟩ := h2.get hx
  refine ⟨⟨vs, v, h1, k1⟩, fun y H' ⟨T, z, e2, hT, e3, hz⟩ => ?_⟩
  have := hz vs h1
  rw [k1] at this
  cases this
  subst e2
  rw [e3]
  exact pair_ok r1 hT (by simpa using .int _) k2
section
variable {X : Cx} {W : We} {tg iter e e2 a b c : Expr} {f : EF} {g : AF} {p pos tpos : Pos} {elts : List Expr} {kk : Nat}
@[simp] def iEnumD (g : AF) : IF := fun sg st => (g sg st).bind fun l st1 => match l with
  | [.lst l] => .ok ⟨enumF 0 l, fun _ => True⟩ st1
  | [.tup l] => .ok ⟨enumF 0 l, fun _ => True⟩ st1
  | [.loc n] => match st1[n]? with
    | some (.lst l) => .ok ⟨enumF 0 l, fun st => st[n]? = some (.lst l)⟩ st1
    | _ => .bad
  | _ => .bad
theorem si_enum (hg : Gl X "enumerate") (hm : X.mg "enumerate" = none) (ha : SA X W [e] g) (hs : starEach [e] X.env = [(false, eval e X.env)] := by rfl) : SI X W (.Tuple elts kk tpos) (.Call (.Name "enumerate" p) [e] [] pos) (iEnumD g) :=
  pi_weak (pi_enumA hg hm ha hs) fun σ H R ⟨m, sg, st, e, rm, rs, hp⟩ => ⟨m, sg, st, e, rm, rs, hp.bindc fun m1 l vs st1 e1 r1 q1 hp1 => by
    split at hp1
    · obtain ⟨v, rfl, hv⟩ := reps1 (X := X) q1
      cases hv with
      | lst h1 h2 => exact ⟨_, _, rfl, .inl ⟨.of (r1.sub _ _ h1), hp1.okc r1 (ite_ok fun m2 st2 e2 r2 _ => ⟨_, .of (r2.sub _ _ (e2.g _ _ h1)), h2.mono e2⟩)⟩⟩
    · obtain ⟨v, rfl, hv⟩ := reps1 (X := X) q1
      cases hv with
      | tup h1 h2 => exact ⟨_, _, rfl, .inr ⟨sqT_mono r1.sub h1, hp1.okc r1 (itet_ok fun m2 st2 e2 r2 _ => ⟨_, sqT_mono r2.sub (sqT_mono e2.g h1), h2.mono e2⟩)⟩⟩
    · obtain ⟨v, rfl, hv⟩ := reps1 (X := X) q1
      cases hv with
      | loc h1 =>
        split at hp1
        · rename_i l hl
          obtain ⟨vs, k1, k2⟩ := r1.obj _ _ _ h1 hl
          refine ⟨_, _, rfl, .inl ⟨.of k1, hp1.okc r1 (ite_ok fun m2 st2 e2 r2 hc => ?_)⟩⟩
          obtain ⟨ws, k3, k4⟩ := r2.obj _ _ _ (e2.at_ h1) hc
          exact ⟨ws, .of k3, k4⟩
        · exact False.elim hp1
    · exact False.elim hp1⟩
end
end Sh
/-! Part U: lists and tuples made of others, slices, stars, all, any, methods of texts. -/
namespace Sh
open PySem L2
/-! the items of a list -/
def lstOf : D → Sto → Option (List D)
  | .lst l, _ => some l
  | .scr l, _ => some (l.map .int)
  | .loc n, st => match st[n]? with
    | some (.lst l) => some l
    | _ => none
  | _, _ => none
theorem lst_of {X : Cx} {m : Hw} {st : Sto} {x : D} {v : V} {l : List D} (rm : Rel X.K X.mg m st) (h : Rep X.K X.mg m.r m.g x v) (e : lstOf x st = some l) : ∃ p vs, v = .ref p ∧ SqL X.K m.h p vs ∧ Reps X.K X.mg m.r m.g l vs := by
  unfold lstOf at e
  split at e
  · cases e; cases h with
    | lst h1 h2 => exact ⟨_, _, rfl, .of (rm.sub _ _ h1), h2⟩
  · cases e; cases h with
    | scr h1 => exact ⟨_, _, rfl, sqL_mono rm.sub h1, reps_ints _⟩
  · cases h with
    | loc h1 =>
      split at e
      · rename_i h2
        cases e
        obtain ⟨vs, h3, h4⟩ := rm.obj _ _ _ h1 h2
        exact ⟨_, _, rfl, .of h3, h4⟩
      · cases e
  · cases e
/-! all, any of a list of truths -/
def blsOf : List D → Option (List Bool)
  | [] => some []
  | .bl b :: l => (blsOf l).map (b :: ·)
  | _ => none
theorem bls_rep {X : Cx} {m : Hw} : ∀ {l : List D} {vs : List V} {bs : List Bool}, Reps X.K X.mg m.r m.g l vs → blsOf l = some bs → vs = bs.map V.bl
  | [], _, bs, h, e => by cases h; cases e; rfl
  | .bl b :: l, _, bs, h, e => by
    cases h with
    | cons h1 h2 =>
      cases h1
      unfold blsOf at e
      obtain ⟨bs', e1, rfl⟩ := Option.map_eq_some_iff.mp e
      rw [bls_rep h2 e1]
      rfl
  | .non :: _, _, _, _, e => by simp [blsOf] at e
  | .int _ :: _, _, _, _, e => by simp [blsOf] at e
  | .str _ :: _, _, _, _, e => by simp [blsOf] at e
  | .tup _ :: _, _, _, _, e => by simp [blsOf] at e
  | .lst _ :: _, _, _, _, e => by simp [blsOf] at e
  | .ins _ _ :: _, _, _, _, e => by simp [blsOf] at e
  | .loc _ :: _, _, _, _, e => by simp [blsOf] at e
  | .scr _ :: _, _, _, _, e => by simp [blsOf] at e
  | .edict :: _, _, _, _, e => by simp [blsOf] at e
@[simp] theorem blsOf_map (bs : List Bool) : blsOf (bs.map D.bl) = some bs := by
  induction bs with
  | nil => rfl
  | cons b bs ih => simp [blsOf, ih]
def bAll : List D → Sto → Res D
  | [x], st => match (lstOf x st).bind blsOf with
    | some bs => .ok (.bl (bs.all id)) st
    | none => .bad
  | _, _ => .bad
def bAny : List D → Sto → Res D
  | [x], st => match (lstOf x st).bind blsOf with
    | some bs => .ok (.bl (bs.any id)) st
    | none => .bad
  | _, _ => .bad
section
variable {X : Cx} {W : We} {tg iter e e2 a b c o : Expr} {f fo : EF} {g : AF} {p pos tpos : Pos} {es : List Expr}
theorem fits_all : FitsL X W (rAll X.K) bAll := by
  intro m st σ l vs Q rm ra hp
  unfold bAll at hp
  split at hp
  · obtain ⟨v, rfl, hv⟩ := reps1 ra
    split at hp
    · rename_i bs h
      obtain ⟨l, h1, h2⟩ := Option.bind_eq_some_iff.mp h
      obtain ⟨q, ws, rfl, k1, k2⟩ := lst_of rm hv h1
      exact ⟨_, bs, rfl, by rw [← bls_rep k2 h2]; exact k1, hp.okc rm (.bl _)⟩
    · exact False.elim hp
  · exact False.elim hp
theorem fits_any : FitsL X W (rAny X.K) bAny := by
  intro m st σ l vs Q rm ra hp
  unfold bAny at hp
  split at hp
  · obtain ⟨v, rfl, hv⟩ := reps1 ra
    split at hp
    · rename_i bs h
      obtain ⟨l, h1, h2⟩ := Option.bind_eq_some_iff.mp h
      obtain ⟨q, ws, rfl, k1, k2⟩ := lst_of rm hv h1
      exact ⟨_, bs, rfl, by rw [← bls_rep k2 h2]; exact k1, hp.okc rm (.bl _)⟩
    · exact False.elim hp
  · exact False.elim hp
/-! tuple(x), list(x) -/
def bTuple : List D → Sto → Res D
  | [.tup l], st => .ok (.tup l) st
  | [x], st => match lstOf x st with
    | some l => .ok (.tup l) st
    | none => .bad
  | _, _ => .bad
theorem post_laid {α : Type} {m : Hw} {st : Sto} {σ : St} {Q : VK} {d : D} {o : HO} (hp : Post X.K X.mg W.w m σ (RD X.K X.mg) Q (.ok d st)) (rm : Rel X.K X.mg m st) (hr : ∀ p, m.h p = none → Rep X.K X.mg (m.lay p o).r (m.lay p o).g d (.ref p)) : ∀ p, m.h p = none → Q (.ref p) (upd m.h p o) := hp.lay (α := D) rm hr
theorem fits_tuple : FitsL X W (fun xs H Q => ∃ p ys, xs = [.ref p] ∧ ((SqL X.K H p ys ∧ ∀ l, H l = none → Q (.ref l) (upd H l (.tup ys))) ∨ (SqT X.K H p ys ∧ Q (.ref p) H))) bTuple := by
  intro m st σ l vs Q rm ra hp
  unfold bTuple at hp
  split at hp
  · obtain ⟨v, rfl, hv⟩ := reps1 ra
    cases hv with
    | tup h1 h2 => exact ⟨_, _, rfl, .inr ⟨sqT_mono rm.sub h1, hp.okc rm (.tup h1 h2)⟩⟩
  · obtain ⟨v, rfl, hv⟩ := reps1 ra
    split at hp
    · rename_i l h
      obtain ⟨q, ws, rfl, k1, k2⟩ := lst_of rm hv h
      exact ⟨_, ws, rfl, .inl ⟨k1, hp.lay (α := D) rm fun p hn => .tup (.of upd_same) (k2.mono (Ext.lay rm hn))⟩⟩
    · exact False.elim hp
  · exact False.elim hp
def bList : List D → Sto → Res D
  | [x], st => match itemsOf x st with
    | some l => .ok (.lst l) st
    | none => .bad
  | _, _ => .bad
def bListN : List D → Sto → Res D
  | [x], st => match itemsOf x st with
    | some l => .ok (.loc st.length) (st ++ [.lst l])
    | none => .bad
  | _, _ => .bad
/-- a new thing of the store -/
theorem post_new {m : Hw} {st : Sto} {σ : St} {Q : VK} {l : List D} {vs : List V} (hp : Post X.K X.mg W.w m σ (RD X.K X.mg) Q (.ok (.loc st.length) (st ++ [.lst l]))) (rm : Rel X.K X.mg m st) (k : Reps X.K X.mg m.r m.g l vs) : ∀ p, m.h p = none → Q (.ref p) (upd m.h p (.lst vs)) := fun p hn => by
  refine hp (m.new p (.lst vs)) (.ref p) (Ext.new rm hn) (rm.new hn ⟨vs, upd_same, k.mono (Ext.new (o := .lst vs) rm hn)⟩) (.loc ?_)
  show (m.r ++ [p])[st.length]? = some p
  rw [← rm.len, List.getElem?_append_right (Nat.le_refl _)]
  simp
theorem fits_list : FitsL X W (fun xs H Q => ∃ p ys, xs = [.ref p] ∧ (SqL X.K H p ys ∨ SqT X.K H p ys) ∧ ∀ l, H l = none → Q (.ref l) (upd H l (.lst ys))) bList := by
  intro m st σ l vs Q rm ra hp
  unfold bList at hp
  split at hp
  · obtain ⟨v, rfl, hv⟩ := reps1 ra
    split at hp
    · rename_i l h
      obtain ⟨q, ws, rfl, k1, k2⟩ := items_of rm hv h
      exact ⟨_, ws, rfl, k1, hp.lay (α := D) rm fun p hn => .lst upd_same (k2.mono (Ext.lay rm hn))⟩
    · exact False.elim hp
  · exact False.elim hp
theorem fits_listN : FitsL X W (fun xs H Q => ∃ p ys, xs = [.ref p] ∧ (SqL X.K H p ys ∨ SqT X.K H p ys) ∧ ∀ l, H l = none → Q (.ref l) (upd H l (.lst ys))) bListN := by
  intro m st σ l vs Q rm ra hp
  unfold bListN at hp
  split at hp
  · obtain ⟨v, rfl, hv⟩ := reps1 ra
    split at hp
    · rename_i l h
      obtain ⟨q, ws, rfl, k1, k2⟩ := items_of rm hv h
      exact ⟨_, ws, rfl, k1, post_new hp rm k2⟩
    · exact False.elim hp
  · exact False.elim hp
/-! slices -/
def cutD (l : List D) (lo hi : Option Int) : List D := (l.drop (HT.sIx l.length 0 lo)).take (HT.sIx l.length l.length hi - HT.sIx l.length 0 lo)
theorem cut_rep {K : PySem.W.Frag} {mg : Str → Option Value} {r : List Addr} {G : Hp} {l : List D} {vs : List V} (h : Reps K mg r G l vs) (lo hi : Option Int) : Reps K mg r G (cutD l lo hi) (cutV vs lo hi) := by
  unfold cutD cutV
  rw [h.length]
  exact (h.drop _).take _
theorem cut_all {l : List D} {lo hi : Option Int} (h : HT.sIx l.length 0 lo = 0 ∧ HT.sIx l.length l.length hi = l.length) : cutD l lo hi = l := by
  unfold cutD
  rw [h.1, h.2]
  simp
def dSl (x : D) (lo hi : Option Int) (st : Sto) : Res D := match x with
  | .str z => if z.length ≤ 16777216 then .ok (.str (cutS z lo hi)) st else .bad
  | .tup l => .ok (.tup (cutD l lo hi)) st
  | x => match lstOf x st with
    | some l => .ok (.lst (cutD l lo hi)) st
    | none => .bad
def dSlN (x : D) (lo hi : Option Int) (st : Sto) : Res D := match lstOf x st with
  | some l => .ok (.loc st.length) (st ++ [.lst (cutD l lo hi)])
  | none => .bad
abbrev OF := Sg → Sto → Res (Option Int)
def SO' (X : Cx) (W : We) (e : Option Expr) (f : OF) : Prop := PO X e (TOf X.K X.mg W (fun _ a b => a = b) f)
theorem po_weak {X : Cx} {e : Option Expr} {t t' : TO} (h : PO X e t) (i : ∀ σ H Q, t' σ H Q → t σ H Q) : PO X e t' := ⟨fun pins s σ H Q I q => h.run pins s σ H Q I (i σ H Q q)⟩
@[simp] def oNone : OF := fun _ st => .ok none st
@[simp] def oSome (f : EF) : OF := fun sg st => (f sg st).bind fun x st1 => match x with
  | .int i => .ok (some i) st1
  | _ => .bad
theorem so_none : SO' X W none oNone := po_weak po_none fun σ H Q ⟨m, sg, st, e, rm, rs, hp⟩ => by
  subst e; exact hp.okc rm rfl
theorem so_some (h : SE X W e f) : SO' X W (some e) (oSome f) := po_weak (po_some h) fun σ H Q ⟨m, sg, st, em, rm, rs, hp⟩ => ⟨m, sg, st, em, rm, rs, hp.bindc fun m1 x v st1 e1 r1 q1 hp1 => by
  split at hp1
  · cases q1; exact ⟨_, rfl, hp1.okc r1 rfl⟩
  · exact False.elim hp1⟩
@[simp] def fSl (sem : D → Option Int → Option Int → Sto → Res D) (f : EF) (lo hi : OF) : EF := fun sg st => (f sg st).bind fun x st1 => (lo sg st1).bind fun i st2 => (hi sg st2).bind fun j st3 => sem x i j st3
abbrev rSlAll (K : PySem.W.Frag) : V → Option Int → Option Int → Hp → VK → Prop := fun x lo hi H Q => rSlL K x lo hi H Q ∨ (rSlA K x lo hi H Q ∨ rSlS x lo hi H Q)
theorem sl_all : SlR X (rSlAll X.K) := sl_list.or (sl_tupA.or sl_str)
variable {lo hi : Option Expr} {flo fhi : OF} {p2 : Pos}
theorem slice_of {sem : D → Option Int → Option Int → Sto → Res D} (hs : ∀ (m : Hw) (st : Sto) (σ : St) (x : D) (v : V) (i j : Option Int) (Q : VK), Rel X.K X.mg m st → Rep X.K X.mg m.r m.g x v → Post X.K X.mg W.w m σ (RD X.K X.mg) Q (sem x i j st) → rSlAll X.K v i j m.h Q)
    (he : SE X W e f) (hl : SO' X W lo flo) (hh : SO' X W hi fhi) : SE X W (.Subscript e (.Slice lo hi none p2) pos) (fSl sem f flo fhi) :=
  pe_weak (pe_slice sl_all he hl hh) fun σ H Q ⟨m, sg, st, em, rm, rs, hp⟩ => ⟨m, sg, st, em, rm, rs, hp.bindc fun m1 x v st1 e1 r1 q1 hp1 => ⟨m1, sg, st1, rfl, r1, rs.mono e1, hp1.bindc fun m2 i i' st2 e2 r2 q2 hp2 => by
    subst q2
    exact ⟨m2, sg, st2, rfl, r2, (rs.mono e1).mono e2, hp2.bindc fun m3 j j' st3 e3 r3 q3 hp3 => by
      subst q3
      exact hs m3 st3 σ x v i j Q r3 ((q1.mono e2).mono e3) hp3⟩⟩⟩
theorem se_sl (he : SE X W e f) (hl : SO' X W lo flo) (hh : SO' X W hi fhi) : SE X W (.Subscript e (.Slice lo hi none p2) pos) (fSl dSl f flo fhi) :=
  slice_of (fun m st σ x v i j Q rm q hp => by
    unfold dSl at hp
    split at hp
    · cases q
      split at hp
      · rename_i hz
        exact .inr (.inr ⟨_, rfl, le_line.mp hz, hp.okc rm (.str _)⟩)
      · exact False.elim hp
    · cases q with
      | tup h1 h2 =>
        refine .inr (.inl ⟨_, _, rfl, sqT_mono rm.sub h1, fun hw => ?_, fun _ => hp.lay (α := D) rm fun p hn => .tup (.of upd_same) (cut_rep (h2.mono (Ext.lay rm hn)) i j)⟩)
        rw [← h2.length] at hw
        rw [cut_all hw] at hp
        exact hp.okc rm (.tup h1 h2)
    · split at hp
      · rename_i l h
        obtain ⟨a, ws, rfl, k1, k2⟩ := lst_of rm q h
        exact .inl ⟨_, _, rfl, k1, hp.lay (α := D) rm fun p hn => .lst upd_same (cut_rep (k2.mono (Ext.lay rm hn)) i j)⟩
      · exact False.elim hp) he hl hh
theorem se_slN (he : SE X W e f) (hl : SO' X W lo flo) (hh : SO' X W hi fhi) : SE X W (.Subscript e (.Slice lo hi none p2) pos) (fSl dSlN f flo fhi) :=
  slice_of (fun m st σ x v i j Q rm q hp => by
    unfold dSlN at hp
    split at hp
    · rename_i l h
      obtain ⟨a, ws, rfl, k1, k2⟩ := lst_of rm q h
      exact .inl ⟨_, _, rfl, k1, post_new hp rm (cut_rep k2 i j)⟩
    · exact False.elim hp) he hl hh
/-! xs[::-1] -/
@[simp] def fRev (f : EF) : EF := fun sg st => (f sg st).bind fun x st1 => match lstOf x st1 with
  | some l => .ok (.lst l.reverse) st1
  | none => .bad
theorem rev_rep {K : PySem.W.Frag} {mg : Str → Option Value} {r : List Addr} {G : Hp} : ∀ {l : List D} {vs : List V}, Reps K mg r G l vs → Reps K mg r G l.reverse vs.reverse
  | [], _, h => by cases h; exact .nil
  | x :: l, _, h => by
    cases h with
    | cons h1 h2 => simpa using (rev_rep h2).append (.one h1)
theorem se_rev {k : Nat} {p1 p3 : Pos} (he : SE X W e f) : SE X W (.Subscript e (.Slice none none (some (.UnaryOp .USub (.Constant (.int 1) k p1) p2)) p3) pos) (fRev f) :=
  pe_weak (pe_revL he) fun σ H Q ⟨m, sg, st, em, rm, rs, hp⟩ => ⟨m, sg, st, em, rm, rs, hp.bindc fun m1 x v st1 e1 r1 q1 hp1 => by
    split at hp1
    · rename_i l h
      obtain ⟨a, ws, rfl, k1, k2⟩ := lst_of r1 q1 h
      exact ⟨_, _, rfl, k1, hp1.lay (α := D) r1 fun p hn => .lst upd_same (rev_rep (k2.mono (Ext.lay r1 hn)))⟩
    · exact False.elim hp1⟩
/-! stars in displays -/
@[simp] def aStar (f : EF) (g : AF) : AF := fun sg st => (f sg st).bind fun x st1 => match itemsOf x st1 with
  | some l => (g sg st1).bind fun r st2 => .ok (l ++ r) st2
  | none => .bad
theorem sa_star (he : SE X W e f) (hr : SA X W es g) (hs : starEach (.Starred e p :: es) X.env = (true, eval e X.env) :: starEach es X.env := by rfl) : SA X W (.Starred e p :: es) (aStar f g) :=
  pa_weak (StX.pa_star he hr hs) fun σ H Q ⟨m, sg, st, em, rm, rs, hp⟩ => ⟨m, sg, st, em, rm, rs, hp.bindc fun m1 x v st1 e1 r1 q1 hp1 => by
    split at hp1
    · rename_i l h
      obtain ⟨a, ws, rfl, k1, k2⟩ := items_of r1 q1 h
      exact ⟨a, ws, rfl, k1.symm, m1, sg, st1, rfl, r1, rs.mono e1, hp1.bindc fun m2 r vs st2 e2 r2 q2 hp2 => hp2.okc r2 ((k2.mono e2).append q2)⟩
    · exact False.elim hp1⟩
/-! xs * k -/
def dRep : D → D → Sto → Res D
  | .lst l, .int k, st => if 0 ≤ k ∧ k < 2 ^ 62 ∧ l.length * k.toNat ≤ 16777216 then .ok (.lst (List.replicate k.toNat l).flatten) st else .bad
  | .tup l, .int k, st => if l ≠ [] ∧ 2 ≤ k ∧ k ≤ 1000 ∧ l.length ≤ 1000 then .ok (.tup (List.replicate k.toNat l).flatten) st else .bad
  | _, _, _ => .bad
theorem rep_rep {K : PySem.W.Frag} {mg : Str → Option Value} {r : List Addr} {G : Hp} {l : List D} {vs : List V} (h : Reps K mg r G l vs) : ∀ n : Nat, Reps K mg r G (List.replicate n l).flatten (List.replicate n vs).flatten
  | 0 => .nil
  | n + 1 => by
    rw [List.replicate_succ, List.replicate_succ, List.flatten_cons, List.flatten_cons]
    exact h.append (rep_rep h n)
theorem fits_rep : Fits2 X W (fun x y H Q => rRep x y H Q ∨ rRepT X.K x y H Q) dRep := by
  intro m st σ x y v w Q rm ra rb hp
  unfold dRep at hp
  split at hp
  · split at hp
    · rename_i h
      cases ra with
      | lst h1 h2 =>
        cases rb
        exact .inl ⟨_, _, _, rfl, rfl, rm.sub _ _ h1, by omega, by omega, by rw [← h2.length]; exact le_line.mp h.2.2, hp.lay (α := D) rm fun p hn => .lst upd_same (rep_rep (h2.mono (Ext.lay rm hn)) _)⟩
    · exact False.elim hp
  · split at hp
    · rename_i h
      cases ra with
      | tup h1 h2 =>
        cases rb
        refine .inr ⟨_, _, _, rfl, rfl, sqT_mono rm.sub h1, ?_, h.2.1, h.2.2.1, by rw [← h2.length]; exact h.2.2.2, hp.lay (α := D) rm fun p hn => .tup (.of upd_same) (rep_rep (h2.mono (Ext.lay rm hn)) _)⟩
        intro z
        subst z
        cases h2
        exact h.1 rfl
    · exact False.elim hp
  · exact False.elim hp
/-! a sign in a text -/
def dInS (neg : Bool) : D → D → Sto → Res D
  | .str x, .str z, st => match x.cps.toList with
    | [c] => .ok (.bl (if neg then !decide (c ∈ z.cps.toList) else decide (c ∈ z.cps.toList))) st
    | _ => .bad
  | _, _, _ => .bad
theorem fits_inS : Fits2 X W (fun x y H Q => ∃ (c : Nat) (z : Str), x = .str ⟨#[c]⟩ ∧ y = .str z ∧ Q (.bl (decide (c ∈ z.cps.toList))) H) (dInS false) := by
  intro m st σ x y v w Q rm ra rb hp
  cases ra with
  | str x =>
    cases rb with
    | str z =>
      unfold dInS at hp
      dsimp only at hp
      split at hp
      · rename_i c hc
        have e : x = ⟨#[c]⟩ := by
          cases x with
          | mk cps =>
            have : cps = #[c] := Array.toList_inj.mp hc
            rw [this]
        subst e
        exact ⟨c, _, rfl, rfl, hp.okc rm (.bl _)⟩
      · exact False.elim hp
    | _ => exact False.elim hp
  | _ => exact False.elim hp
/-! methods of texts -/
def strsOf : List D → Option (List Str)
  | [] => some []
  | .str b :: l => (strsOf l).map (b :: ·)
  | _ => none
theorem strs_rep {m : Hw} : ∀ {l : List D} {vs : List V} {bs : List Str}, Reps X.K X.mg m.r m.g l vs → strsOf l = some bs → vs = bs.map V.str
  | [], _, bs, h, e => by cases h; cases e; rfl
  | .str b :: l, _, bs, h, e => by
    cases h with
    | cons h1 h2 =>
      cases h1
      unfold strsOf at e
      obtain ⟨bs', e1, rfl⟩ := Option.map_eq_some_iff.mp e
      rw [strs_rep h2 e1]
      rfl
  | .non :: _, _, _, _, e => by simp [strsOf] at e
  | .int _ :: _, _, _, _, e => by simp [strsOf] at e
  | .bl _ :: _, _, _, _, e => by simp [strsOf] at e
  | .tup _ :: _, _, _, _, e => by simp [strsOf] at e
  | .lst _ :: _, _, _, _, e => by simp [strsOf] at e
  | .ins _ _ :: _, _, _, _, e => by simp [strsOf] at e
  | .loc _ :: _, _, _, _, e => by simp [strsOf] at e
  | .scr _ :: _, _, _, _, e => by simp [strsOf] at e
  | .edict :: _, _, _, _, e => by simp [strsOf] at e
@[simp] theorem strsOf_map (bs : List Str) : strsOf (bs.map D.str) = some bs := by
  induction bs with
  | nil => rfl
  | cons b bs ih => simp [strsOf, ih]
theorem reps_strs {K : PySem.W.Frag} {mg : Str → Option Value} {r : List Addr} {G : Hp} : ∀ ys : List Str, Reps K mg r G (ys.map D.str) (ys.map V.str)
  | [] => .nil
  | y :: ys => .cons (.str y) (reps_strs ys)
def mJoin (x : D) (l : List D) (st : Sto) : Res D := match x, l with
  | .str a, [y] => match (itemsOf y st).bind strsOf with
    | some ys => if (ys.map (·.length)).sum + ys.length * a.length ≤ 16777216 then .ok (.str (Txt.join a ys)) st else .bad
    | none => .bad
  | _, _ => .bad
theorem fits_join : FitsM X W (fun x xs H Q => ∃ a p, ∃ ys : List Str, x = .str a ∧ xs = [.ref p] ∧ (SqL X.K H p (ys.map V.str) ∨ SqT X.K H p (ys.map V.str)) ∧ (ys.map (·.length)).sum + ys.length * a.length ≤ 16777216 ∧ Q (.str (Txt.join a ys)) H) mJoin := by
  intro m st σ x v l vs Q rm q ql hp
  unfold mJoin at hp
  split at hp
  · split at hp
    · rename_i ys h
      split at hp
      · rename_i hz
        obtain ⟨l, h1, h2⟩ := Option.bind_eq_some_iff.mp h
        obtain ⟨w, rfl, hw⟩ := reps1 ql
        obtain ⟨p, ws, rfl, k1, k2⟩ := items_of rm hw h1
        cases q
        rw [strs_rep k2 h2] at k1
        exact ⟨_, p, ys, rfl, rfl, k1, hz, hp.okc rm (.str _)⟩
      · exact False.elim hp
    · exact False.elim hp
  · exact False.elim hp
def mSplit (x : D) (l : List D) (st : Sto) : Res D := match x, l with
  | .str a, [.str b] => if (b.length == 0) = false ∧ a.length + 2 ≤ 16777216 then .ok (.lst ((Txt.split a b).map .str)) st else .bad
  | _, _ => .bad
def mSplitN (x : D) (l : List D) (st : Sto) : Res D := match x, l with
  | .str a, [.str b] => if (b.length == 0) = false ∧ a.length + 2 ≤ 16777216 then .ok (.loc st.length) (st ++ [.lst ((Txt.split a b).map .str)]) else .bad
  | _, _ => .bad
theorem fits_split : FitsM X W (fun x xs H Q => ∃ a b, x = .str a ∧ xs = [.str b] ∧ (b.length == 0) = false ∧ a.length + 2 ≤ sizeLine ∧ rNewStrs (Txt.split a b) H Q) mSplit := by
  intro m st σ x v l vs Q rm q ql hp
  unfold mSplit at hp
  split at hp
  · split at hp
    · rename_i h
      obtain ⟨w, rfl, hw⟩ := reps1 ql
      cases q; cases hw
      exact ⟨_, _, rfl, rfl, h.1, le_line.mp h.2, hp.lay (α := D) rm fun p hn => .lst upd_same (reps_strs _)⟩
    · exact False.elim hp
  · exact False.elim hp
theorem fits_splitN : FitsM X W (fun x xs H Q => ∃ a b, x = .str a ∧ xs = [.str b] ∧ (b.length == 0) = false ∧ a.length + 2 ≤ sizeLine ∧ rNewStrs (Txt.split a b) H Q) mSplitN := by
  intro m st σ x v l vs Q rm q ql hp
  unfold mSplitN at hp
  split at hp
  · split at hp
    · rename_i h
      obtain ⟨w, rfl, hw⟩ := reps1 ql
      cases q; cases hw
      exact ⟨_, _, rfl, rfl, h.1, le_line.mp h.2, post_new hp rm (reps_strs _)⟩
    · exact False.elim hp
  · exact False.elim hp
def mPart (x : D) (l : List D) (st : Sto) : Res D := match x, l with
  | .str a, [.str b] => if (b.length == 0) = false ∧ a.length ≤ 16777216 then .ok (.tup [.str (Txt.partition a b).1, .str (Txt.partition a b).2.1, .str (Txt.partition a b).2.2]) st else .bad
  | _, _ => .bad
theorem fits_part : FitsM X W (fun x xs H Q => ∃ a b, x = .str a ∧ xs = [.str b] ∧ (b.length == 0) = false ∧ a.length ≤ sizeLine ∧
    ∀ p, H p = none → Q (.ref p) (upd H p (.tup [.str (Txt.partition a b).1, .str (Txt.partition a b).2.1, .str (Txt.partition a b).2.2]))) mPart := by
  intro m st σ x v l vs Q rm q ql hp
  unfold mPart at hp
  split at hp
  · split at hp
    · rename_i h
      obtain ⟨w, rfl, hw⟩ := reps1 ql
      cases q; cases hw
      exact ⟨_, _, rfl, rfl, h.1, le_line.mp h.2, hp.lay (α := D) rm fun p hn => .tup (.of upd_same) (.cons (.str _) (.cons (.str _) (.cons (.str _) .nil)))⟩
    · exact False.elim hp
  · exact False.elim hp
def mS2B (g : Str → Str → Bool) (x : D) (l : List D) (st : Sto) : Res D := match x, l with
  | .str a, [.str b] => .ok (.bl (g a b)) st
  | _, _ => .bad
theorem fits_s2b {g : Str → Str → Bool} : FitsM X W (fun x xs H Q => ∃ a b, x = .str a ∧ xs = [.str b] ∧ Q (.bl (g a b)) H) (mS2B g) := by
  intro m st σ x v l vs Q rm q ql hp
  unfold mS2B at hp
  split at hp
  · obtain ⟨w, rfl, hw⟩ := reps1 ql
    cases q; cases hw
    exact ⟨_, _, rfl, rfl, hp.okc rm (.bl _)⟩
  · exact False.elim hp
def mS2I (g : Str → Str → Int) (x : D) (l : List D) (st : Sto) : Res D := match x, l with
  | .str a, [.str b] => .ok (.int (g a b)) st
  | _, _ => .bad
theorem fits_s2i {g : Str → Str → Int} : FitsM X W (fun x xs H Q => ∃ a b, x = .str a ∧ xs = [.str b] ∧ Q (.int (g a b)) H) (mS2I g) := by
  intro m st σ x v l vs Q rm q ql hp
  unfold mS2I at hp
  split at hp
  · obtain ⟨w, rfl, hw⟩ := reps1 ql
    cases q; cases hw
    exact ⟨_, _, rfl, rfl, hp.okc rm (.int _)⟩
  · exact False.elim hp
def mDigit (x : D) (l : List D) (st : Sto) : Res D := match x, l with
  | .str a, [] => .ok (.bl (Txt.isdigit a)) st
  | _, _ => .bad
theorem fits_digit : FitsM X W (fun x xs H Q => ∃ a, x = .str a ∧ xs = [] ∧ True ∧ Q (.bl (Txt.isdigit a)) H) mDigit := by
  intro m st σ x v l vs Q rm q ql hp
  unfold mDigit at hp
  split at hp
  · cases q; cases ql
    exact ⟨_, rfl, rfl, trivial, hp.okc rm (.bl _)⟩
  · exact False.elim hp
/-! int(text), too -/
def bIntS : List D → Sto → Res D
  | [.int i], st => .ok (.int i) st
  | [.bl b], st => .ok (.int (if b then 1 else 0)) st
  | [.str a], st => match PySem.intText? a with
    | some n => if a.length ≤ 640 then .ok (.int n) st else .bad
    | none => .bad
  | _, _ => .bad
abbrev rIntA : List V → Hp → VK → Prop := fun xs H Q => ((∃ i, xs = [.int i] ∧ Q (.int i) H) ∨ ∃ k, xs = [.bl k] ∧ Q (.int (if k then 1 else 0)) H) ∨ ∃ a n, xs = [.str a] ∧ PySem.intText? a = some n ∧ a.length ≤ 640 ∧ Q (.int n) H
theorem call_intA : CallR X (.type "int") rIntA := call_int1.or call_int_str
theorem fits_intS : FitsL X W rIntA bIntS := by
  intro m st σ l vs Q rm ra hp
  unfold bIntS at hp
  split at hp
  · obtain ⟨v, rfl, hv⟩ := reps1 ra
    cases hv
    exact .inl (.inl ⟨_, rfl, hp.okc rm (.int _)⟩)
  · obtain ⟨v, rfl, hv⟩ := reps1 ra
    cases hv
    exact .inl (.inr ⟨_, rfl, hp.okc rm (.int _)⟩)
  · obtain ⟨v, rfl, hv⟩ := reps1 ra
    cases hv
    split at hp
    · rename_i n hn
      split at hp
      · rename_i hz
        exact .inr ⟨_, n, rfl, hn, hz, hp.okc rm (.int _)⟩
      · exact False.elim hp
    · exact False.elim hp
  · exact False.elim hp
end
end Sh
/-! Part V: constants of the module, defaults that are (), defs that call themselves. -/
namespace Sh
open PySem L2 He
section
variable {X : Cx} {W : We} {x : Str} {p : Pos}
theorem se_gint {i : Int} (hg : Gl X x) (hm : ∃ t, X.mg x = some (.int i t)) (hdb : (x == ("__debug__" : Str)) = false := by decide) : SE X W (.Name x p) (fC (.int i)) := by
  obtain ⟨t, h⟩ := hm
  exact se_c (pe_glob (v := .int i) hg h ⟨t, rfl⟩ hdb) fun _ _ _ => .int i
theorem se_gstr {i : Str} (hg : Gl X x) (hm : ∃ t, X.mg x = some (.str i t)) (hdb : (x == ("__debug__" : Str)) = false := by decide) : SE X W (.Name x p) (fC (.str i)) := by
  obtain ⟨t, h⟩ := hm
  exact se_c (pe_glob (v := .str i) hg h ⟨t, rfl⟩ hdb) fun _ _ _ => .str i
theorem se_gtup {l : List D} {ds : List Dv} (hg : Gl X x) (hm : X.mg x = some (.ref (ga X.K x))) (h : tupB X.K x ds = true) (hl : ∀ r G, Reps X.K X.mg r G l (ds.map (Dv.v X.K))) (hdb : (x == ("__debug__" : Str)) = false := by decide) : SE X W (.Name x p) (fC (.tup l)) :=
  se_c (pe_glob (v := .ref (ga X.K x)) hg hm rfl hdb) fun m st rm => .tup (tupB_ok h m.g) (hl m.r m.g)
end
/-! a default that is () -/
def nilB (a : PySem.W.Frag → Addr) (K : PySem.W.Frag) : Bool := match K.lookup (a K) with
  | some ⟨.type c, _, .seq its _, _⟩ => decide (c = "tuple") && decide (its.size = 0)
  | _ => false
theorem nil_ok {K : PySem.W.Frag} {mg : Str → Option Value} {a : PySem.W.Frag → Addr} (h : nilB a K = true) (r : List Addr) (G : Hp) : Rep K mg r G (.tup []) (.ref (a K)) := by
  refine .tup (vs := []) ?_ .nil
  unfold nilB at h
  cases q : K.lookup (a K) with
  | none => rw [q] at h; cases h
  | some o =>
    obtain ⟨oc, od, dt, osl⟩ := o
    rw [q] at h
    cases oc with
    | type c =>
      cases dt with
      | seq its n =>
        obtain ⟨h1, h2⟩ := Bool.and_eq_true_iff.mp (show (decide (c = "tuple") && decide (its.size = 0)) = true from h)
        have h3 : its.size = 0 := of_decide_eq_true h2
        refine .inr ⟨_, its, n, q, congrArg Value.type (of_decide_eq_true h1), rfl, by rw [h3]; exact Nat.zero_le _, ?_⟩
        have : its.toList = [] := List.eq_nil_of_length_eq_zero (by simpa using h3)
        rw [this]
        exact .nil
      | _ => cases h
    | _ => cases dt <;> cases h
/-! raise X(..) in a place that is never reached -/
/-! a def that calls itself: as deep as n -/
def recF (N : Nat) (g : FF → SF) : Nat → FF
  | 0 => fun _ _ => .bad
  | n + 1 => fnF N (g (recF N g n))
theorem recF_succ (N : Nat) (g : FF → SF) (n : Nat) : recF N g (n + 1) = fnF N (g (recF N g n)) := rfl
section
variable {P : Program} {w : World} {K : PySem.W.Frag} {mg : Str → Option Value} {base : Heap} {x qual : Str} {st : Stmt} {f : Addr} {N ps : List Str} {k : Nat} {g : FF → SF} {dvs : List V}
theorem def_rec (F : ∃ fd, FunD K x qual (defArgs st) (defBody st) (defScope st) [] [] f fd) (S : FnScope N ps (defScope st))
    (hb : ∀ (kV doc pm : Value) (an : Option Addr) (cdv ct : Value) (us : List Value), us.length = ps.length → bindArgs (PySem.W.fnOf x qual (defArgs st) (defBody st) (defScope st) .none kV doc pm an cdv ct) ⟨us, []⟩ = pure (ps.zip us))
    (h : ∀ n Fr, DefOk P w K mg base (k + n + 1) f ps [] Fr → BodyOk P w K mg base N qual st f (k + n + 1) (g Fr)) : ∀ n, DefOk P w K mg base (k + n + 1) f ps [] (recF N.length g n)
  | 0 => by
    have := def_ok (P := P) (w := w) (mg := mg) (base := base) (k := k) (g := fun _ _ => .bad) F S hb (fun _ _ _ _ _ _ _ => ss_nevers)
    exact this
  | n + 1 => by
    have ih := def_rec F S hb h n
    exact def_ok (k := k + n + 1) (g := g (recF N.length g n)) F S hb (h n _ ih)
end
end Sh
/-! Part W: own __len__, __getitem__, __contains__. -/
namespace Sh
open PySem L2 He
section
variable {X : Cx} {W : We} {a b e o : Expr} {es : List Expr} {fa fb : EF} {ga : AF} {pos p : Pos} {k c : Nat} {g C : Addr} {F : FF} {ps : List Str} {m x : Str} {sem base : List D → Sto → Res D} {f : Value}
def CalS (X : Cx) (W : We) (f : Value) (sem : List D → Sto → Res D) : Prop := ∀ (pins : List (Addr × Obj)) (s : Shared) (σ : St) (m : Hw) (st : Sto) (l : List D) (vs : List V) (us : List Value) (Q : VK), Inv X pins σ m.h s → Vals vs us → Rel X.K X.mg m st → Reps X.K X.mg m.r m.g l vs →
  Post X.K X.mg W.w m σ (RD X.K X.mg) Q (sem l st) → wpAny (model X.prog X.w) X.A (call f us) (EP X pins σ Q) X.xe s
theorem CalS.of {r : List V → Hp → VK → Prop} (hc : CallR X f r) (hs : FitsL X W r sem) : CalS X W f sem := fun pins s σ m st l vs us Q I rv rm ra hp => hc pins s σ m.h vs us Q I rv (hs m st σ l vs Q rm ra hp)
theorem se_callS {id : String} (hc : CalS X W (.builtin id) sem) (hg : Gl X x) (hm : X.mg x = none) (hv : bootBuiltins x = some (.builtin id)) (ha : SA X W (e :: es) ga) (hn : x ≠ "__name__" := by decide) (hdb : (x == ("__debug__" : Str)) = false := by decide)
    (he : starEach (e :: es) X.env = (false, eval e X.env) :: starEach es X.env := by rfl) (hpl : (backTo pos (starEach es X.env)).any (·.1) = false := by rfl) : SE X W (.Call (.Name x p) (e :: es) [] pos) (fCall sem ga) := ⟨fun pins s σ H Q I t => by
  obtain ⟨w, sg, st, rfl, rm, rs, hp⟩ := t
  refine wpAny_Call_Name_kw (ld_blt I hg hm hv ?_ hn hdb)
  refine PyProof.Rows.callWith_builtin1 (thn (ha.run pos pins s σ w.h (fun vs H2 => ∃ m2 l st2, m2.h = H2 ∧ Rel X.K X.mg m2 st2 ∧ Reps X.K X.mg m2.r m2.g l vs ∧ Post X.K X.mg W.w m2 σ (RD X.K X.mg) Q (sem l st2)) I
    ⟨w, sg, st, rfl, rm, rs, Post.bindc (x := ga sg st) hp fun m2 l vs st2 e2 r2 q2 hp2 => ⟨m2, l, st2, rfl, r2, q2, hp2⟩⟩) fun us s1 hz => ?_) he hpl
  obtain ⟨vs, H2, I2, rv2, m2, l, st2, rfl, r2, q2, hp2⟩ := hz
  exact hc pins s1 σ m2 st2 l vs us Q I2 rv2 r2 q2 hp2⟩
/-- len of an instance by its own __len__ -/
def bLenO (c : Nat) (F : FF) (base : List D → Sto → Res D) : List D → Sto → Res D := fun l st => match l with
  | [x] => match insOf c x st with
    | some _ => (cF F 1 [] [x] st).bind fun d st1 => match d with
      | .int n => if 0 ≤ n ∧ n < 2 ^ 63 then .ok (.int n) st1 else .bad
      | _ => .bad
    | none => base [x] st
  | _ => .bad
theorem CalS.lenO (h : DefOk X.prog X.w X.K X.mg X.base k g ps [] F) (hps : ps.length = 1) (hr : Room (k + 1) X.A) (tk : Takes X W.w) (hc : X.mg (cName c) = some (.ref C)) (hme : Meth X.K C "__len__" g) (hb : CalS X W (.builtin "len") base) : CalS X W (.builtin "len") (bLenO c F base) := by
  intro pins s σ m st l vs us Q I rv rm ra hp
  unfold bLenO at hp
  split at hp
  · rename_i x
    obtain ⟨v, rfl, hv⟩ := reps1 (X := X) ra
    split at hp
    · rename_i l1 e1
      obtain ⟨a, ox, od, rfl, J, _⟩ := inst_of I hc rm hv e1
      cases rv with
      | cons r1 r2 =>
        cases r2
        obtain rfl := (show _ = Value.ref a from r1)
        obtain ⟨mm, hF⟩ := I.fr
        rw [← hps] at hp
        refine PySem.W.len_K hF I.ok.mod.kin J hme.at_ hme.fn (wpAny_mono (run_meth1 (us := []) (vs := []) (Q := fun w H3 => ∃ n : Int, w = .int n ∧ (0 ≤ n ∧ n < 2 ^ 63) ∧ Q (.int n) H3) h hr.in1 tk hv I .nil rm .nil (Post.bindc (x := cF F ps.length [] [x] st) hp fun m1 d w st1 e1 r1 q1 hp1 => ?_)) (fun w' s' z => ?_) fun _ _ z => z)
        · split at hp1
          · split at hp1
            · rename_i hn
              cases q1
              exact ⟨_, rfl, hn, hp1.okc r1 (.int _)⟩
            · exact False.elim hp1
          · exact False.elim hp1
        · obtain ⟨z', H', I', rz, n, rfl, hn, qz⟩ := z
          obtain ⟨t, rfl⟩ := (show ∃ t, w' = Value.int n t from rz)
          exact ⟨hn, .int n, H', I'.tok _, ⟨_, rfl⟩, qz⟩
    · exact hb pins s σ m st _ _ us Q I rv rm ra hp
  · exact False.elim hp
/-- x in o, o an instance with its own __contains__ -/
def dInO (neg : Bool) (c : Nat) (F : FF) (base : D → D → Sto → Res D) : D → D → Sto → Res D := fun x y st => match insOf c y st with
  | some _ => (cF F 2 [] [y, x] st).bind fun d st1 => match d with
    | .bl b => .ok (.bl (if neg then !b else b)) st1
    | _ => .bad
  | none => base x y st
theorem BinS.inO {base : D → D → Sto → Res D} (h : DefOk X.prog X.w X.K X.mg X.base k g ps [] F) (hps : ps.length = 2) (hr : Room k X.A) (tk : Takes X W.w) (hc : X.mg (cName c) = some (.ref C)) (hme : Meth X.K C "__contains__" g) (hb : BinS X W (compareOp .In) base) : BinS X W (compareOp .In) (dInO false c F base) := by
  intro pins s σ m st x y xv yv v u Q I rx ry rm qx qy hp
  unfold dInO at hp
  split at hp
  · rename_i l1 e1
    obtain ⟨a, ox, od, rfl, J, _⟩ := inst_of I hc rm qy e1
    obtain rfl : u = Value.ref a := ry
    obtain ⟨mm, hF⟩ := I.fr
    obtain ⟨⟨fd, h1, h2, _⟩, h3⟩ := h
    obtain ⟨ds, dv, bb⟩ := h2 0 (Nat.zero_le _)
    rw [← hps] at hp
    refine PySem.W.in_K hF I.ok.mod.kin J hme.at_ hme.fn (wpAny_mono (run_meth (us := [v]) (vs := [xv]) (Q := fun w H3 => ∃ b, w = .bl b ∧ Q (.bl b) H3) h1 hr tk bb ⟨dv, fun _ _ => .nil⟩ qy I (.cons rx .nil) (Ext.refl m) rm (.one qx) (Post.bindc (x := cF F ps.length [] [y, x] st) hp fun m1 d w st1 e1 r1 q1 hp1 => ?_)) (fun w' s' z => ?_) fun _ _ z => z)
    · split at hp1
      · cases q1
        exact ⟨_, rfl, hp1.okc r1 (.bl _)⟩
      · exact False.elim hp1
    · obtain ⟨z', H', I', rz, b, rfl, qz⟩ := z
      cases (show w' = Value.bool b from rz)
      exact wpAny_truthy_bool ⟨.bl b, H', I', rfl, qz⟩
  · exact hb pins s σ m st x y xv yv v u Q I rx ry rm qx qy hp
theorem BinS.notInO {base : D → D → Sto → Res D} (h : DefOk X.prog X.w X.K X.mg X.base k g ps [] F) (hps : ps.length = 2) (hr : Room k X.A) (tk : Takes X W.w) (hc : X.mg (cName c) = some (.ref C)) (hme : Meth X.K C "__contains__" g) (hb : BinS X W (compareOp .NotIn) base) : BinS X W (compareOp .NotIn) (dInO true c F base) := by
  intro pins s σ m st x y xv yv v u Q I rx ry rm qx qy hp
  unfold dInO at hp
  split at hp
  · rename_i l1 e1
    obtain ⟨a, ox, od, rfl, J, _⟩ := inst_of I hc rm qy e1
    obtain rfl : u = Value.ref a := ry
    obtain ⟨mm, hF⟩ := I.fr
    obtain ⟨⟨fd, h1, h2, _⟩, h3⟩ := h
    obtain ⟨ds, dv, bb⟩ := h2 0 (Nat.zero_le _)
    rw [← hps] at hp
    refine PySem.W.notIn_K hF I.ok.mod.kin J hme.at_ hme.fn (wpAny_mono (run_meth (us := [v]) (vs := [xv]) (Q := fun w H3 => ∃ b, w = .bl b ∧ Q (.bl !b) H3) h1 hr tk bb ⟨dv, fun _ _ => .nil⟩ qy I (.cons rx .nil) (Ext.refl m) rm (.one qx) (Post.bindc (x := cF F ps.length [] [y, x] st) hp fun m1 d w st1 e1 r1 q1 hp1 => ?_)) (fun w' s' z => ?_) fun _ _ z => z)
    · split at hp1
      · cases q1
        exact ⟨_, rfl, hp1.okc r1 (.bl _)⟩
      · exact False.elim hp1
    · obtain ⟨z', H', I', rz, b, rfl, qz⟩ := z
      cases (show w' = Value.bool b from rz)
      exact wpAny_truthy_bool ⟨.bl !b, H', I', rfl, qz⟩
  · exact hb pins s σ m st x y xv yv v u Q I rx ry rm qx qy hp
/-! subscripts -/
def PlainIx2 (b : Expr) : Prop := ∀ o i, subscripted b true o i = runValue (.builtin "lifetime.subscript" ⟨[o, i], []⟩)
def IxS (X : Cx) (W : We) (sem : D → D → Sto → Res D) : Prop :=
  ∀ (value slice : Expr) (pins : List (Addr × Obj)) (s : Shared) (σ : St) (m : Hw) (st : Sto) (x y : D) (xv yv : V) (v u : Value) (Q : VK), Inv X pins σ m.h s → RelV xv v → RelV yv u → Rel X.K X.mg m st → Rep X.K X.mg m.r m.g x xv → Rep X.K X.mg m.r m.g y yv →
    Post X.K X.mg W.w m σ (RD X.K X.mg) Q (sem x y st) → PlainIx slice → PlainIx2 slice → wpAny (model X.prog X.w) X.A (PyProof.Rows.subscriptTail value slice v u) (EP X pins σ Q) X.xe s
theorem IxS.bas : IxS X W dIx := fun value slice pins s σ m st x y xv yv v u Q I rx ry rm qx qy hp h1 h2 => ix_seq value slice pins s σ m.h xv yv v u Q I rx ry (fits_ix m st σ x y xv yv Q rm qx qy hp) (h1 _ _)
theorem IxS.none_ : IxS X W (fun _ _ _ => .bad) := fun _ _ _ _ _ _ _ _ _ _ _ _ _ _ _ _ _ _ _ _ hp _ _ => hp.elim
def dIxO (c : Nat) (F : FF) (base : D → D → Sto → Res D) : D → D → Sto → Res D := fun x y st => match insOf c x st with
  | some _ => cF F 2 [] [x, y] st
  | none => base x y st
theorem IxS.own {base : D → D → Sto → Res D} (h : DefOk X.prog X.w X.K X.mg X.base k g ps [] F) (hps : ps.length = 2) (hr : Room (k + 1) X.A) (tk : Takes X W.w) (hc : X.mg (cName c) = some (.ref C)) (hme : Meth X.K C "__getitem__" g) (hfi : PySem.W.fnIn X.K g = true) (hb : IxS X W base) : IxS X W (dIxO c F base) := by
  intro value slice pins s σ m st x y xv yv v u Q I rx ry rm qx qy hp h1 h2
  unfold dIxO at hp
  split at hp
  · rename_i l1 e1
    obtain ⟨a, ox, od, rfl, J, _⟩ := inst_of I hc rm qx e1
    obtain rfl : v = Value.ref a := rx
    obtain ⟨mm, hF⟩ := I.fr
    rw [← hps] at hp
    refine PySem.W.sub_K hF I.ok.mod.kin J hme.at_ hfi hme.fn (run_meth1 (us := [u]) (vs := [yv]) h hr.in1 tk qx I (.cons ry .nil) rm (.one qy) hp) (h2 _ _)
  · exact hb value slice pins s σ m st x y xv yv v u Q I rx ry rm qx qy hp h1 h2
theorem se_ixS {sem : D → D → Sto → Res D} (h : IxS X W sem) (ha : SE X W a fa) (hb : SE X W b fb) (h1 : PlainIx b) (h2 : PlainIx2 b) : SE X W (.Subscript a b pos) (fBin sem fa fb) := ⟨fun pins s σ H Q I t => by
  obtain ⟨w, sg, st, rfl, rm, rs, hp⟩ := t
  refine PyProof.Rows.Subscript_ (thn (ha.run pins s σ w.h (MPost X W σ sg Q fun x st1 => (fb sg st1).bind fun y st2 => sem x y st2) I ⟨w, sg, st, rfl, rm, rs, Post.bindc (x := fa sg st) hp fun m1 x v st1 e1 r1 q1 hp1 => ⟨m1, x, st1, rfl, r1, rs.mono e1, q1, hp1⟩⟩) fun u s1 hh => ?_)
  obtain ⟨v, H1, I1, rv, m1, x, st1, rfl, r1, rs1, q1, hp1⟩ := hh
  refine thn (hb.run pins s1 σ m1.h (fun v2 H2 => ∃ m2 y st2, m2.h = H2 ∧ Ext m1 m2 ∧ Rel X.K X.mg m2 st2 ∧ Rep X.K X.mg m2.r m2.g y v2 ∧ Post X.K X.mg W.w m2 σ (RD X.K X.mg) Q (sem x y st2)) I1
    ⟨m1, sg, st1, rfl, r1, rs1, Post.bindc (x := fb sg st1) hp1 fun m2 y v2 st2 e2 r2 q2 hp2 => ⟨m2, y, st2, rfl, e2, r2, q2, hp2⟩⟩) fun u2 s2 hz => ?_
  obtain ⟨v2, H2, I2, rv2, m2, y, st2, rfl, e2, r2, q2, hp2⟩ := hz
  exact h a b pins s2 σ m2 st2 x y v v2 u u2 Q I2 rv rv2 r2 (q1.mono e2) q2 hp2 h1 h2⟩
end
def bFnIn (x m : Str) (K : PySem.W.Frag) : Bool := PySem.W.fnIn K (ma K (ga K x) m)
end Sh
/-! Part X: isinstance(x, (list, tuple)). -/
namespace Sh
open PySem L2 He
def tSeq : List (String × Bool) := [("int", false), ("bool", false), ("NoneType", false), ("str", false), ("tuple", true), ("list", true), ("dict", false)]
section
variable {X : Cx} {W : We} {a b e o : Expr} {es : List Expr} {fa fb fo : EF} {pos p p1 p2 p3 : Pos} {x n1 n2 : Str} {k2 : _}
def IsiCT (X : Cx) : List (Nat × Bool) → Prop
  | [] => True
  | (c, b) :: l => (∃ C, X.mg (cName c) = some (.ref C) ∧ InsC X.K C ∧ PySem.W.kitOne X.K (.ref C) (.type "list") = some false ∧ PySem.W.kitOne X.K (.ref C) (.type "tuple") = some false ∧ b = false) ∧ IsiCT X l
theorem IsiCT.get : ∀ {l : List (Nat × Bool)} {c : Nat} {b : Bool}, IsiCT X l → l.lookup c = some b → ∃ C, X.mg (cName c) = some (.ref C) ∧ InsC X.K C ∧ PySem.W.kitOne X.K (.ref C) (.type "list") = some false ∧ PySem.W.kitOne X.K (.ref C) (.type "tuple") = some false ∧ b = false
  | [], _, _, _, e => by simp at e
  | (c', b') :: l, c, b, h, e => by
    rw [List.lookup_cons] at e
    by_cases z : c = c'
    · subst z
      simp at e
      subst e
      exact h.1
    · have : (c == c') = false := by simpa using z
      rw [this] at e
      exact IsiCT.get h.2 e
theorem kit2 {K : PySem.W.Frag} {t u v : Value} {b1 b2 : Bool} (h1 : PySem.W.kitOne K t u = some b1) (h2 : PySem.W.kitOne K t v = some b2) : PySem.W.kitAny K t [u, v] = some (b1 || b2) := by
  refine kitAny_cons h1 (fun z => ?_) fun z => by rw [z]; rfl
  refine kitAny_cons h2 (fun z2 => ?_) fun z2 => by rw [z2]; cases b1 <;> rfl
  rw [z, z2]
  rfl
theorem seq_kit {K : PySem.W.Frag} {t : String} {b : Bool} (h : tbl tSeq t = some b) : ∃ b1 b2, PySem.W.kitOne K (.type t) (.type "list") = some b1 ∧ PySem.W.kitOne K (.type t) (.type "tuple") = some b2 ∧ (b1 || b2) = b := by
  have h1 := fun q => tList_ok (K := K) t q
  have h2 := fun q => tTuple_ok (K := K) t q
  have key : ∀ p ∈ tSeq, tbl tList p.1 = some (decide (p.1 = "list")) ∧ tbl tTuple p.1 = some (decide (p.1 = "tuple")) ∧ (decide (p.1 = "list") || decide (p.1 = "tuple")) = p.2 := by decide
  have : (t, b) ∈ tSeq := by
    unfold tbl at h
    obtain ⟨l, r, e, _⟩ := List.lookup_eq_some_iff.mp h
    rw [e]
    simp
  obtain ⟨k1, k2, k3⟩ := key _ this
  exact ⟨_, _, h1 _ k1, h2 _ k2, k3⟩
theorem se_isiT0 {cl : List (Nat × Bool)} {T1 T2 : String} (h12 : (T1 = "list" ∧ T2 = "tuple") ∨ (T1 = "tuple" ∧ T2 = "list")) (hg : Gl X "isinstance") (hm : X.mg "isinstance" = none) (ho : SE X W o fo)
    (h1 : PE X a (tC (.ty T1))) (h2 : PE X b (tC (.ty T2))) (hcl : IsiCT X cl)
    (he : starEach (o :: [Expr.Tuple [a, b] k2 p3]) X.env = (false, eval o X.env) :: starEach [Expr.Tuple [a, b] k2 p3] X.env := by rfl) (hpl : (backTo pos (starEach [Expr.Tuple [a, b] k2 p3] X.env)).any (·.1) = false := by rfl) (hs : starEach (Expr.Tuple [a, b] k2 p3 :: []) X.env = (false, eval (Expr.Tuple [a, b] k2 p3) X.env) :: starEach [] X.env := by rfl)
    (hs1 : starEach (a :: [b]) X.env = (false, eval a X.env) :: starEach [b] X.env := by rfl) (hs2 : starEach (b :: []) X.env = (false, eval b X.env) :: starEach [] X.env := by rfl) :
    SE X W (.Call (.Name "isinstance" p) [o, .Tuple [a, b] k2 p3] [] pos) (fIsi (tbl tSeq) cl fo) :=
  pe_weak (pe_callB call_isiT hg hm (by decide +kernel) (pa_cons ho (pa_cons (pe_tup (pa_cons h1 (pa_cons h2 pa_nil hs2) hs1)) pa_nil hs) he) (by decide) (by decide) he hpl) fun σ H Q ⟨m, sg, st, e, rm, rs, hp⟩ => ⟨m, sg, st, e, rm, rs, hp.bindc fun m1 x v st1 e1 r1 q1 hp1 => by
    refine ⟨by show 2 ≤ sizeLine; decide, fun tp hn => ?_⟩
    have r2 : Rel X.K X.mg (m1.lay tp (.tup [.ty T1, .ty T2])) st1 := r1.lay hn
    have e2 : Ext m1 (m1.lay tp (.tup [.ty T1, .ty T2])) := Ext.lay r1 hn
    have q2 := q1.mono e2
    have hp2 := Post.mono hp1 e2
    have pr : Paired ClsV [.ty T1, .ty T2] [.type T1, .type T2] := .cons (.ty _) (.cons (.ty _) .nil)
    unfold bIsi at hp2
    split at hp2
    · rename_i t ht
      split at hp2
      · rename_i b hb
        obtain ⟨b1, b2, z1, z2, z3⟩ := seq_kit (K := X.K) hb
        refine ⟨_, tp, _, _, _, b, rfl, upd_same, pr, ty_of r2 q2 ht, ?_, hp2.okc r2 (.bl _)⟩
        rcases h12 with ⟨rfl, rfl⟩ | ⟨rfl, rfl⟩
        · rw [kit2 z1 z2, z3]
        · rw [kit2 z2 z1, Bool.or_comm, z3]
      · exact False.elim hp2
    · split at hp2
      · rename_i c' hc'
        split at hp2
        · rename_i b hb
          obtain ⟨C, k1, k2, k3, k4, rfl⟩ := hcl.get hb
          refine ⟨_, tp, _, _, _, _, rfl, upd_same, pr, cls_of r2 q2 hc' k1 k2, ?_, hp2.okc r2 (.bl _)⟩
          rcases h12 with ⟨rfl, rfl⟩ | ⟨rfl, rfl⟩
          · exact kit2 k3 k4
          · exact kit2 k4 k3
        · exact False.elim hp2
      · exact False.elim hp2⟩
end
end Sh
/-! Part Y: data that may be compared; what more to rewrite with. -/
namespace Sh
open PySem L2
mutual
/-- data without instances, dicts, places -/
def py : D → Bool
  | .non => true
  | .bl _ => true
  | .int _ => true
  | .str _ => true
  | .tup l => pys l
  | .lst l => pys l
  | _ => false
def pys : List D → Bool
  | [] => true
  | x :: l => py x && pys l
end
mutual
def dep : D → Nat
  | .tup l => deps l + 1
  | .lst l => deps l + 1
  | _ => 0
def deps : List D → Nat
  | [] => 0
  | x :: l => max (dep x) (deps l)
end
@[simp] theorem py_non : py (.non) = true := rfl
@[simp] theorem py_bl (a : Bool) : py (.bl a) = true := rfl
@[simp] theorem py_int (i : Int) : py (.int i) = true := rfl
@[simp] theorem py_str (x : Str) : py (.str x) = true := rfl
@[simp] theorem py_ins (c : Nat) (l : List D) : py (.ins c l) = false := rfl
@[simp] theorem py_loc (n : Nat) : py (.loc n) = false := rfl
@[simp] theorem py_scr (l : List Int) : py (.scr l) = false := rfl
@[simp] theorem py_edict : py (.edict) = false := rfl
@[simp] theorem py_tup (l : List D) : py (.tup l) = pys l := rfl
@[simp] theorem py_lst (l : List D) : py (.lst l) = pys l := rfl
@[simp] theorem pys_nil : pys [] = true := rfl
@[simp] theorem pys_cons (x : D) (l : List D) : pys (x :: l) = (py x && pys l) := rfl
@[simp] theorem dep_tup (l : List D) : dep (.tup l) = deps l + 1 := rfl
@[simp] theorem dep_lst (l : List D) : dep (.lst l) = deps l + 1 := rfl
@[simp] theorem deps_nil : deps [] = 0 := rfl
@[simp] theorem deps_cons (x : D) (l : List D) : deps (x :: l) = max (dep x) (deps l) := rfl
@[simp] theorem dep_non : dep (.non) = 0 := rfl
@[simp] theorem dep_bl (a : Bool) : dep (.bl a) = 0 := rfl
@[simp] theorem dep_int (i : Int) : dep (.int i) = 0 := rfl
@[simp] theorem dep_str (x : Str) : dep (.str x) = 0 := rfl
@[simp] theorem dep_ins (c : Nat) (l : List D) : dep (.ins c l) = 0 := rfl
@[simp] theorem dep_loc (n : Nat) : dep (.loc n) = 0 := rfl
@[simp] theorem dep_scr (l : List Int) : dep (.scr l) = 0 := rfl
@[simp] theorem dep_edict : dep (.edict) = 0 := rfl
mutual
theorem toPy_of : ∀ x : D, py x = true → ∃ d, toPy x = some d ∧ d.depth = dep x
  | .non, _ => ⟨.none, by simp [toPy], by simp [PyData.depth]⟩
  | .bl b, _ => ⟨.bool b, by simp [toPy], by simp [PyData.depth]⟩
  | .int i, _ => ⟨.int i, by simp [toPy], by simp [PyData.depth]⟩
  | .str i, _ => ⟨.str i, by simp [toPy], by simp [PyData.depth]⟩
  | .tup l, h => by
    obtain ⟨ds, h1, h2⟩ := toPys_of l (by simpa using h)
    exact ⟨.tuple ds, by simp [toPy, h1], by simp [PyData.depth, h2]⟩
  | .lst l, h => by
    obtain ⟨ds, h1, h2⟩ := toPys_of l (by simpa using h)
    exact ⟨.list ds, by simp [toPy, h1], by simp [PyData.depth, h2]⟩
  | .ins _ _, h => by simp at h
  | .edict, h => by simp at h
  | .loc _, h => by simp at h
  | .scr _, h => by simp at h
theorem toPys_of : ∀ l : List D, pys l = true → ∃ ds, toPys l = some ds ∧ PyData.depthAll ds = deps l
  | [], _ => ⟨[], by simp [toPys], by simp [PyData.depthAll]⟩
  | x :: l, h => by
    obtain ⟨h1, h2⟩ := Bool.and_eq_true_iff.mp (show (py x && pys l) = true by simpa using h)
    obtain ⟨d, e1, e2⟩ := toPy_of x h1
    obtain ⟨ds, e3, e4⟩ := toPys_of l h2
    exact ⟨d :: ds, by simp [toPys, e1, e3], by simp [PyData.depthAll, e2, e4]⟩
end
theorem eqOk_of {x y : D} (hx : py x = true) (hy : py y = true) (h : min (dep x) (dep y) ≤ 64) : eqOk x y = true := by
  obtain ⟨d, e1, e2⟩ := toPy_of x hx
  obtain ⟨e, e3, e4⟩ := toPy_of y hy
  unfold eqOk
  rw [e1, e3]
  simp only [e2, e4, decide_eq_true h]
/-- == of data by value -/
theorem dEq_py {x y : D} (st : Sto) (hx : py x = true) (hy : py y = true) (h : min (dep x) (dep y) ≤ 64) : dEq x y st = .ok (.bl (dEqv x y)) st := by
  refine dEq_ok (eqOk_of hx hy h) ?_ ?_ <;> (unfold resD; split <;> first | rfl | (simp at hx; done) | (simp at hy; done))
theorem dNe_py {x y : D} (st : Sto) (hx : py x = true) (hy : py y = true) (h : min (dep x) (dep y) ≤ 64) : dNe x y st = .ok (.bl (!dEqv x y)) st := by
  refine dNe_ok (eqOk_of hx hy h) ?_ ?_ <;> (unfold resD; split <;> first | rfl | (simp at hx; done) | (simp at hy; done))
@[simp] theorem dEq_ss (x y : Str) (st : Sto) : dEq (.str x) (.str y) st = .ok (.bl (x == y)) st := by rw [dEq_py st rfl rfl (by simp)]; simp
@[simp] theorem dNe_ss (x y : Str) (st : Sto) : dNe (.str x) (.str y) st = .ok (.bl !(x == y)) st := by rw [dNe_py st rfl rfl (by simp)]; simp
@[simp] theorem dEq_bb (x y : Bool) (st : Sto) : dEq (.bl x) (.bl y) st = .ok (.bl (x == y)) st := by rw [dEq_py st rfl rfl (by simp)]; simp
@[simp] theorem dNe_bb (x y : Bool) (st : Sto) : dNe (.bl x) (.bl y) st = .ok (.bl !(x == y)) st := by rw [dNe_py st rfl rfl (by simp)]; simp
mutual
theorem dEqv_refl : ∀ x : D, py x = true → dEqv x x = true
  | .non, _ => by simp
  | .bl b, _ => by simp
  | .int i, _ => by simp
  | .str i, _ => by simp
  | .tup l, h => by
    have := dEqvs_refl l (by simpa using h)
    simpa using this
  | .lst l, h => by
    have := dEqvs_refl l (by simpa using h)
    simpa using this
  | .ins _ _, h => by simp at h
  | .edict, h => by simp at h
  | .loc _, h => by simp at h
  | .scr _, h => by simp at h
theorem dEqvs_refl : ∀ l : List D, pys l = true → dEqvs l l = true
  | [], _ => by simp
  | x :: l, h => by
    obtain ⟨h1, h2⟩ := Bool.and_eq_true_iff.mp (show (py x && pys l) = true by simpa using h)
    simp [dEqv_refl x h1, dEqvs_refl l h2]
end
theorem pys_mem {l : List D} : pys l = true ↔ ∀ x ∈ l, py x = true := by
  induction l with
  | nil => simp
  | cons a l ih => simp [ih]
theorem deps_le {l : List D} {n : Nat} : deps l ≤ n ↔ ∀ x ∈ l, dep x ≤ n := by
  induction l with
  | nil => simp
  | cons a l ih =>
    simp only [deps, List.mem_cons, forall_eq_or_imp, ← ih]
    omega
theorem pu_of_py {x : D} (h : py x = true) : pu x = true := by
  have key : ∀ n (x : D), sizeOf x < n → py x = true → pu x = true := by
    intro n
    induction n with
    | zero => intro x h; omega
    | succ n ih =>
      have list : ∀ l : List D, sizeOf l < n + 1 → pys l = true → pus l = true := by
        intro l
        induction l with
        | nil => intro _ _; rfl
        | cons y l ihl =>
          intro hs hp
          obtain ⟨h1, h2⟩ := Bool.and_eq_true_iff.mp (show (py y && pys l) = true by simpa using hp)
          have s1 : sizeOf y < n := by simp at hs; omega
          have s2 : sizeOf l < n + 1 := by simp at hs; omega
          simp [ih y s1 h1, ihl s2 h2]
      intro x hs hp
      cases x with
      | tup l => simpa using list l (by simp at hs; omega) (by simpa using hp)
      | lst l => simpa using list l (by simp at hs; omega) (by simpa using hp)
      | non => rfl
      | bl b => rfl
      | int i => rfl
      | str z => rfl
      | _ => simp at hp
  exact key _ x (Nat.lt_succ_self _) h
/-! what more to rewrite with -/
@[simp] theorem str_lit {a b : String} : Str.ofString a = Str.ofString b ↔ a = b := by
  constructor
  · intro h
    have h1 := congrArg (fun z => z.cps.toList) h
    simp only [Str.ofString_eq_toList] at h1
    have h2 : a.toList.map Char.toNat = b.toList.map Char.toNat := by simpa using h1
    have h3 : a.toList = b.toList := by
      have inj : ∀ l m : List Char, l.map Char.toNat = m.map Char.toNat → l = m := by
        intro l
        induction l with
        | nil => intro m h; cases m with
          | nil => rfl
          | cons => simp at h
        | cons c l ih => intro m h; cases m with
          | nil => simp at h
          | cons d m =>
            simp at h
            have : c = d := by
              apply Char.ext
              apply UInt32.toNat_inj.mp
              exact h.1
            rw [this, ih m h.2]
      exact inj _ _ h2
    exact String.toList_inj.mp h3
  · intro h; rw [h]
@[simp] theorem pu_non : pu (.non) = true := rfl
@[simp] theorem pu_bl (a : Bool) : pu (.bl a) = true := rfl
@[simp] theorem pu_int (i : Int) : pu (.int i) = true := rfl
@[simp] theorem pu_str (x : Str) : pu (.str x) = true := rfl
@[simp] theorem pu_scr (l : List Int) : pu (.scr l) = true := rfl
@[simp] theorem pu_edict : pu (.edict) = true := rfl
theorem dInL_of {neg : Bool} {x y : D} {st : Sto} {l : List D} (h : itemsOf y st = some l) (hx : dFlat x = true) (hl : l.all dFlat = true) : dInL neg x y st = .ok (.bl (if neg then !(l.any fun y => dEqv y x) else l.any fun y => dEqv y x)) st := by
  unfold dInL; rw [h]; simp [hx, hl]
@[simp] theorem dFlat_non : dFlat (.non) = true := rfl
@[simp] theorem dFlat_bl (a : Bool) : dFlat (.bl a) = true := rfl
@[simp] theorem dFlat_int (i : Int) : dFlat (.int i) = true := rfl
@[simp] theorem dFlat_str (x : Str) : dFlat (.str x) = true := rfl
@[simp] theorem dFlat_tup (l : List D) : dFlat (.tup l) = false := rfl
@[simp] theorem dFlat_lst (l : List D) : dFlat (.lst l) = false := rfl
theorem dInL_tup {neg : Bool} {x : D} {l : List D} {st : Sto} (hx : dFlat x = true) (hl : l.all dFlat = true) : dInL neg x (.tup l) st = .ok (.bl (if neg then !(l.any fun y => dEqv y x) else l.any fun y => dEqv y x)) st := dInL_of rfl hx hl
theorem dInL_lst {neg : Bool} {x : D} {l : List D} {st : Sto} (hx : dFlat x = true) (hl : l.all dFlat = true) : dInL neg x (.lst l) st = .ok (.bl (if neg then !(l.any fun y => dEqv y x) else l.any fun y => dEqv y x)) st := dInL_of rfl hx hl
@[simp] theorem ev_lstOf : type_of% @lstOf.eq_def := @lstOf.eq_def
@[simp] theorem ev_bTuple : type_of% @bTuple.eq_def := @bTuple.eq_def
@[simp] theorem ev_bList : type_of% @bList.eq_def := @bList.eq_def
@[simp] theorem ev_dSl : type_of% @dSl.eq_def := @dSl.eq_def
@[simp] theorem ev_dRep : type_of% @dRep.eq_def := @dRep.eq_def
@[simp] theorem ev_bLenO : type_of% @bLenO.eq_def := @bLenO.eq_def
@[simp] theorem ev_dIxO : type_of% @dIxO.eq_def := @dIxO.eq_def
@[simp] theorem ev_dInO : type_of% @dInO.eq_def := @dInO.eq_def
@[simp] theorem ev_mS2B : type_of% @mS2B.eq_def := @mS2B.eq_def
@[simp] theorem ev_dOwnI : type_of% @dOwnI.eq_def := @dOwnI.eq_def
@[simp] theorem ev_rXc : type_of% @rXc.eq_def := @rXc.eq_def
@[simp] theorem ev_dFmt : type_of% @dFmt.eq_def := @dFmt.eq_def
@[simp] theorem ev_bStr : type_of% @bStr.eq_def := @bStr.eq_def
@[simp] theorem isi_seq_int (i : Int) (cl : List (Nat × Bool)) (st : Sto) : bIsi (tbl tSeq) cl (.int i) st = .ok (.bl false) st := rfl
@[simp] theorem isi_seq_bl (i : Bool) (cl : List (Nat × Bool)) (st : Sto) : bIsi (tbl tSeq) cl (.bl i) st = .ok (.bl false) st := rfl
@[simp] theorem isi_seq_non (cl : List (Nat × Bool)) (st : Sto) : bIsi (tbl tSeq) cl .non st = .ok (.bl false) st := rfl
@[simp] theorem isi_seq_str (i : Str) (cl : List (Nat × Bool)) (st : Sto) : bIsi (tbl tSeq) cl (.str i) st = .ok (.bl false) st := rfl
@[simp] theorem isi_seq_tup (i : List D) (cl : List (Nat × Bool)) (st : Sto) : bIsi (tbl tSeq) cl (.tup i) st = .ok (.bl true) st := rfl
@[simp] theorem isi_seq_lst (i : List D) (cl : List (Nat × Bool)) (st : Sto) : bIsi (tbl tSeq) cl (.lst i) st = .ok (.bl true) st := rfl
end Sh
/-! Part Z: objects made with keywords. -/
namespace Sh
open PySem L2
section
variable {X : Cx} {W : We} {e o : Expr} {es : List Expr} {kws : List Keyword} {g gk : AF} {pos p apos pos' : Pos} {x m : Str} {k np : Nat} {fn C : Addr} {ps ks : List Str} {dvs : List V} {dds : List D} {F : FF} {arr : List (Nat × Nat)}
theorem run_makeK {ci : Nat} {pins : List (Addr × Obj)} {σ : St} {s : Shared} {w : Hw} {stt : Sto} {l z : List D} {vs zs : List V} {us ws : List Value} {Q : VK} (hc : X.mg (cName ci) = some (.ref C)) (M : Mk X.K C fn) (h : DefKw X.prog X.w X.K X.mg X.base k fn ps dvs F np ks arr) (hd : ∀ r G, Reps X.K X.mg r G dds dvs) (hr : Room (k + 1) X.A) (tk : Takes X W.w)
    (I : Inv X pins σ w.h s) (r : Vals vs us) (rz : Vals zs ws) (rm : Rel X.K X.mg w stt) (q : Reps X.K X.mg w.r w.g l vs) (qz : Reps X.K X.mg w.r w.g z zs)
    (hp : ∀ x dx, w.h x = none → w.h dx = none → dx ≠ x → Post X.K X.mg W.w ⟨w.r ++ [x], w.g, upd (upd w.h dx (.own x)) x (.ins C dx [])⟩ σ (RD X.K X.mg) (fun v H2 => v = .non ∧ Q (.ref x) H2) (cK F ps.length np ks.length arr dds (.loc stt.length :: l) z (stt ++ [.ins ci []]))) :
    wpAny (model X.prog X.w) X.A (call (.ref C) us (ks.zip ws)) (EP X pins σ Q) X.xe s := by
  have n1 : w.h (s.heap.objs.size + 1) = none := I.hok.fresh (Nat.le_succ _)
  have n2 : w.h s.heap.objs.size = none := I.hok.fresh (Nat.le_refl _)
  have n3 : s.heap.objs.size ≠ s.heap.objs.size + 1 := Nat.ne_of_lt (Nat.lt_succ_self _)
  have hq := hp _ _ n1 n2 n3
  have I2 := Inv.made (C := C) I
  have r0 := rm.side (o := .own (s.heap.objs.size + 1)) (rm.fresh n2) (rm.gnone n2)
  have n4 : (w.put s.heap.objs.size (.own (s.heap.objs.size + 1))).h (s.heap.objs.size + 1) = none := by
    show upd w.h _ _ _ = none
    rw [upd_ne (Ne.symm n3)]; exact n1
  have r1 := r0.new (o := .ins C s.heap.objs.size []) (so := .ins ci []) n4 ⟨C, _, [], hc, upd_same, by simp, .nil⟩
  have e1 : ∀ (i : Nat) (a : Addr), w.r[i]? = some a → (w.r ++ [s.heap.objs.size + 1])[i]? = some a := fun i a z => by
    rw [List.getElem?_append_left (List.getElem?_eq_some_iff.mp z).1]; exact z
  have ql : Reps X.K X.mg (w.r ++ [s.heap.objs.size + 1]) w.g (.loc stt.length :: l) (V.ref (s.heap.objs.size + 1) :: vs) := .cons (.loc (by
    rw [← rm.len, List.getElem?_append_right (Nat.le_refl _)]
    simp)) (Reps.mono' e1 (fun _ _ z => z) _ _ q)
  have qz2 : Reps X.K X.mg (w.r ++ [s.heap.objs.size + 1]) w.g z zs := Reps.mono' e1 (fun _ _ z => z) _ _ qz
  have rr : Vals (V.ref (s.heap.objs.size + 1) :: vs) (Value.ref (s.heap.objs.size + 1) :: us) := .cons rfl r
  obtain ⟨fd, its, hF, hv, hb, _⟩ := h
  unfold cK at hq
  split at hq
  · rename_i hl
    obtain ⟨l1, l2, l3⟩ := hl
    have here := hF.run _ X.stack _ _ ⟨Value.ref (s.heap.objs.size + 1) :: us, ks.zip ws⟩ (pick arr (Value.ref (s.heap.objs.size + 1) :: us) its ws) (pick arr (V.ref (s.heap.objs.size + 1) :: vs) dvs zs) (fun v H2 => v = .non ∧ Q (.ref (s.heap.objs.size + 1)) H2) (WE W.w σ) (hr.make C us (ks.zip ws)) (I2.env0.make C us (ks.zip ws)) (hb.to _ (Value.ref (s.heap.objs.size + 1) :: us) ws I2.kIn (by rw [← rr.length, ← ql.length]; exact l1) (by rw [← rz.length, ← qz.length]; exact l2)) (pick_vals rr hv rz arr)
      ⟨⟨w.r ++ [s.heap.objs.size + 1], w.g, _⟩, _, _, rfl, r1, pick_reps ql (hd _ _) qz2 arr, l3, hq.conv⟩
    refine wpAny_call (make_map (f := fn) I.kIn M.makes M.init (beq_iff_eq.mp M.fn) (codeAny_mono here fun res s' hz => ?_))
    match res, hz with
    | .error er, hz => exact passAt tk σ pins _ _ er s' I2 hz
    | .ok (.ret u), hz =>
      obtain ⟨v, H', I3, rv, ev, q3⟩ := I2.after hz
      subst ev
      exact ⟨rv, ⟨V.ref (s.heap.objs.size + 1), H', I3, rfl, q3⟩⟩
    | .ok .next, hz => exact False.elim hz
    | .ok .brk, hz => exact False.elim hz
    | .ok .cont, hz => exact False.elim hz
  · exact False.elim hq
noncomputable def mkK (c : Nat) (F : FF) (n np nk : Nat) (arr : List (Nat × Nat)) (dds : List D) (l z : List D) : Sto → Res D := mkG c (fun x => cK F n np nk arr dds (x :: l) z)
theorem se_makeK {ci : Nat} (h : DefKw X.prog X.w X.K X.mg X.base k fn ps dvs F np ks arr) (hd : ∀ r G, Reps X.K X.mg r G dds dvs) (hr : Room (k + 1) X.A) (tk : Takes X W.w) (hc : X.mg (cName ci) = some (.ref C)) (M : Mk X.K C fn) (hg : Gl X x) (hm : X.mg x = some (.ref C)) (ha : SA X W (e :: es) g) (hk : SK X W kws gk)
    (hall : (backToKw pos (keywordEach kws X.env)).all (·.1.isSome) = true := by rfl) (hks : (backToKw pos (keywordEach kws X.env)).filterMap (·.1) = ks := by rfl)
    (hdb : (x == ("__debug__" : Str)) = false := by decide) (he : starEach (e :: es) X.env = (false, eval e X.env) :: starEach es X.env := by rfl)
    (hpl : ((backTo pos (starEach (e :: es) X.env)).any (·.1) || (backToKw pos (keywordEach kws X.env)).any (·.1.isNone)) = false := by rfl) :
    SE X W (.Call (.Name x p) (e :: es) kws pos) (fCallK (mkK ci F ps.length np ks.length arr dds) g gk) := by
  refine ⟨fun pins s σ H Q I ht => ?_⟩
  obtain ⟨w, sg, st, rfl, rm, rs, hp⟩ := ht
  refine wpAny_Call_Name_kw (ld_glob I hg hm ?_ hdb)
  refine PySem.W.callWith_KW (h₀ := X.base) I.ok.mod.kin M.kp hall (thn (ha.run pos pins s σ w.h (fun vs H2 => ∃ m2 l st2, m2.h = H2 ∧ Rel X.K X.mg m2 st2 ∧ SgRep X.K X.mg W.e m2 sg σ ∧ Reps X.K X.mg m2.r m2.g l vs ∧ Post X.K X.mg W.w m2 σ (RD X.K X.mg) Q ((gk sg st2).bind fun z st3 => mkK ci F ps.length np ks.length arr dds l z st3)) I
    ⟨w, sg, st, rfl, rm, rs, hp.bindc fun m2 l vs st2 e2 r2 q2 hp2 => ⟨m2, l, st2, rfl, r2, rs.mono e2, q2, hp2⟩⟩) fun us s1 hz => ?_) hpl he
  obtain ⟨vs, H2, I2, rv, m2, l, st2, rfl, r2, rs2, q2, hp2⟩ := hz
  refine thn (hk.run pos pins s1 σ m2.h (fun zs H3 => ∃ m3 z st3, m3.h = H3 ∧ Ext m2 m3 ∧ Rel X.K X.mg m3 st3 ∧ Reps X.K X.mg m3.r m3.g z zs ∧ Post X.K X.mg W.w m3 σ (RD X.K X.mg) Q (mkK ci F ps.length np ks.length arr dds l z st3)) I2
    ⟨m2, sg, st2, rfl, r2, rs2, Post.bindc (x := gk sg st2) hp2 fun m3 z zs st3 e3 r3 q3 hp3 => ⟨m3, z, st3, rfl, e3, r3, q3, hp3⟩⟩) fun ws s2 hz2 => ?_
  obtain ⟨zs, H3, I3, rz, m3, z, st3, rfl, e3, r3, q3, hp3⟩ := hz2
  rw [hks]
  exact ⟨I3.kIn, run_makeK hc M h hd hr tk I3 rv rz r3 (q2.mono e3) q3 (mkG_post (Fk := fun x => cK F ps.length np ks.length arr dds (x :: l) z) hc r3 hp3)⟩
theorem se_makeK0 {ci : Nat} (h : DefKw X.prog X.w X.K X.mg X.base k fn ps dvs F np ks arr) (hd : ∀ r G, Reps X.K X.mg r G dds dvs) (hr : Room (k + 1) X.A) (tk : Takes X W.w) (hc : X.mg (cName ci) = some (.ref C)) (M : Mk X.K C fn) (hg : Gl X x) (hm : X.mg x = some (.ref C)) (hk : SK X W kws gk)
    (hall : (backToKw pos (keywordEach kws X.env)).all (·.1.isSome) = true := by rfl) (hks : (backToKw pos (keywordEach kws X.env)).filterMap (·.1) = ks := by rfl)
    (hdb : (x == ("__debug__" : Str)) = false := by decide)
    (hpl : ((backTo pos (starEach [] X.env)).any (·.1) || (backToKw pos (keywordEach kws X.env)).any (·.1.isNone)) = false := by rfl) :
    SE X W (.Call (.Name x p) [] kws pos) (fCallK (mkK ci F ps.length np ks.length arr dds) aNil gk) := by
  refine ⟨fun pins s σ H Q I ht => ?_⟩
  obtain ⟨w, sg, st, rfl, rm, rs, hp⟩ := ht
  refine wpAny_Call_Name_kw (ld_glob I hg hm ?_ hdb)
  refine PySem.W.callWith_KW0 (h₀ := X.base) I.ok.mod.kin M.kp hall (thn (hk.run pos pins s σ w.h (fun zs H3 => ∃ m3 z st3, m3.h = H3 ∧ Rel X.K X.mg m3 st3 ∧ Reps X.K X.mg m3.r m3.g z zs ∧ Post X.K X.mg W.w m3 σ (RD X.K X.mg) Q (mkK ci F ps.length np ks.length arr dds [] z st3)) I
    ⟨w, sg, st, rfl, rm, rs, Post.bindc (x := gk sg st) hp fun m3 z zs st3 e3 r3 q3 hp3 => ⟨m3, z, st3, rfl, r3, q3, hp3⟩⟩) fun ws s2 hz => ?_) hpl
  obtain ⟨zs, H3, I3, rz, m3, z, st3, rfl, r3, q3, hp3⟩ := hz
  rw [hks]
  exact ⟨I3.kIn, run_makeK (us := []) hc M h hd hr tk I3 .nil rz r3 .nil q3 (mkG_post (Fk := fun x => cK F ps.length np ks.length arr dds (x :: []) z) hc r3 hp3)⟩
end
/-! a[i], b[j] = x, y -/
section
open He
variable {X : Cx} {W : We} {e o o2 b b2 : Expr} {f fo fo2 fi fi2 : EF} {pos : Pos}
def rPut2 (fo fi fo2 fi2 f : EF) : Sg → Sto → Res Unit := fun sg st => (f sg st).bind fun d st1 => match d with
  | .tup [d1, d2] => (fo sg st1).bind fun x st2 => (fi sg st2).bind fun i st3 => match i with
    | .int i => match stSet x i d1 st3 with
      | some st4 => (fo2 sg st4).bind fun y st5 => (fi2 sg st5).bind fun j st6 => match j with
        | .int j => match stSet y j d2 st6 with
          | some st7 => .ok () st7
          | none => .bad
        | _ => .bad
      | none => .bad
    | _ => .bad
  | _ => .bad
@[simp] def sPut2 (fo fi fo2 fi2 f : EF) : SF := fun sg st => (rPut2 fo fi fo2 fi2 f sg st).flw sg fun _ st4 => .nx sg st4
theorem set_put {m : Hw} {st st4 : Sto} {x d : D} {w v : V} {i : Int} (hst : stSet x i d st = some st4) (q2 : Rep X.K X.mg m.r m.g x w) (rm : Rel X.K X.mg m st) (q1 : Rep X.K X.mg m.r m.g d v) :
    ∃ a vs j, w = .ref a ∧ m.h a = some (.lst vs) ∧ ixN vs.length i = some j ∧ Ext m (m.put a (.lst (vs.set j v))) ∧ Rel X.K X.mg (m.put a (.lst (vs.set j v))) st4 := by
  unfold stSet at hst
  split at hst
  · split at hst
    · rename_i l hl
      split at hst
      · rename_i j hj
        cases hst
        cases q2 with
        | loc hr =>
          obtain ⟨vs, k1, k2⟩ := rm.obj _ _ _ hr hl
          exact ⟨_, vs, j, rfl, k1, by rw [← k2.length]; exact hj, Ext.put (List.mem_of_getElem? hr), rm.put hr ⟨_, upd_same, k2.set q1 j⟩⟩
      · cases hst
    · cases hst
  · cases hst
theorem ss_put2 {ps ps2 pt pt2 : Pos} {kt k2} {es : List Expr} (hc : X.calm = true) (ho : SE X W o fo) (hi : SE X W b fi) (ho2 : SE X W o2 fo2) (hi2 : SE X W b2 fi2) (he : SE X W (.Tuple es k2 pt2) f)
    (hs : swapsWithSole [.Tuple [.Subscript o b ps, .Subscript o2 b2 ps2] kt pt] (.Tuple es k2 pt2) pos.line X.env = pure false := by rfl) (hw : swappedStores [.Tuple [.Subscript o b ps, .Subscript o2 b2 ps2] kt pt] (.Tuple es k2 pt2) X.env = pure none := by rfl)
    (h1 : (assignEach [.Tuple [.Subscript o b ps, .Subscript o2 b2 ps2] kt pt] X.env).map (·.2) = [assign (.Tuple [.Subscript o b ps, .Subscript o2 b2 ps2] kt pt) X.env] := by rfl)
    (hn : (assignEach [.Subscript o b ps, .Subscript o2 b2 ps2] X.env).length = 2 := by rfl) (hst : (assignEach [.Subscript o b ps, .Subscript o2 b2 ps2] X.env).findIdx? (·.1) = none := by rfl)
    (hs1 : (assignEach [.Subscript o b ps, .Subscript o2 b2 ps2] X.env).map (·.2) = assign (.Subscript o b ps) X.env :: (assignEach [.Subscript o2 b2 ps2] X.env).map (·.2) := by rfl)
    (hs2 : (assignEach [.Subscript o2 b2 ps2] X.env).map (·.2) = assign (.Subscript o2 b2 ps2) X.env :: (assignEach [] X.env).map (·.2) := by rfl)
    (ha : ∀ v, assign (.Subscript o b ps) X.env v = (do
      let ov ← holding [v] (eval o X.env)
      let iv ← holding [v, ov] (eval b X.env)
      standAt ps
      holding [v, ov, iv] (setItem ov iv v)
      release [v, ov, iv] []) := by intro _; rfl)
    (ha2 : ∀ v, assign (.Subscript o2 b2 ps2) X.env v = (do
      let ov ← holding [v] (eval o2 X.env)
      let iv ← holding [v, ov] (eval b2 X.env)
      standAt ps2
      holding [v, ov, iv] (setItem ov iv v)
      release [v, ov, iv] []) := by intro _; rfl) : SS X W (.Assign [.Tuple [.Subscript o b ps, .Subscript o2 b2 ps2] kt pt] (.Tuple es k2 pt2) pos) (sPut2 fo fi fo2 fi2 f) :=
  ps_weak (ps_asg he (pg_tup hc (pgs_cons (pg_sub ho hi set_list ha) (pgs_cons (pg_sub ho2 hi2 set_list ha2) pgs_nil hs2) hs1) hn hst) hs hw h1) fun D σ H ⟨m, sg, st, e, rm, rs, hp⟩ => ⟨m, sg, st, e, rm, rs, by
    have hp' := flwc (r := rPut2 fo fi fo2 fi2 f sg st) (R := fun _ _ _ => True) (β := Unit) (Q := fun _ H3 => D.nx σ H3) hp rs fun m1 y v st1 e1 r1 q1 hp1 => hp1 m1 _ (Ext.refl _) r1 (rs.mono e1)
    unfold rPut2 at hp'
    refine hp'.bindc fun m1 d v st1 e1 r1 q1 hp1 => ?_
    split at hp1
    · rename_i d1 d2
      cases q1 with
      | tup t1 t2 =>
        obtain ⟨v1, v2, rfl, qa, qb⟩ := reps2 (X := X) t2
        refine ⟨_, _, rfl, sqT_mono r1.sub t1, rfl, v1, _, rfl, m1, sg, st1, rfl, r1, rs.mono e1, hp1.bindc fun m2 x w st2 e2 r2 q2 hp2 => ⟨m2, sg, st2, rfl, r2, (rs.mono e1).mono e2, hp2.bindc fun m3 i u st3 e3 r3 q3 hp3 => ?_⟩⟩
        split at hp3
        · rename_i i
          split at hp3
          · rename_i st4 hst
            cases q3
            obtain ⟨a, vs, j, rfl, k1, kj, e4, r4⟩ := set_put hst (q2.mono e3) r3 ((qa.mono e2).mono e3)
            refine ⟨_, vs, i, j, rfl, rfl, k1, kj, v2, _, rfl, m3.put a (.lst (vs.set j v1)), sg, st4, rfl, r4, (((rs.mono e1).mono e2).mono e3).mono e4, ?_⟩
            refine Post.bindc (x := fo2 sg st4) (Post.mono hp3 e4) fun m5 y w5 st5 e5 r5 q5 hp5 => ⟨m5, sg, st5, rfl, r5, ((((rs.mono e1).mono e2).mono e3).mono e4).mono e5, hp5.bindc fun m6 jj u6 st6 e6 r6 q6 hp6 => ?_⟩
            split at hp6
            · rename_i jj
              split at hp6
              · rename_i st7 hst7
                cases q6
                obtain ⟨a2, vs2, j2, rfl, n1, nj, e7, r7⟩ := set_put hst7 (q5.mono e6) r6 ((((qb.mono e2).mono e3).mono e4).mono e5 |>.mono e6)
                exact ⟨_, vs2, jj, j2, rfl, rfl, n1, nj, rfl, hp6 _ () e7 r7 trivial⟩
              · exact False.elim hp6
            · exact False.elim hp6
          · exact False.elim hp3
        · exact False.elim hp3
    · exact False.elim hp1⟩
end
/-! a, b, .. = a list -/
section
variable {X : Cx} {W : We} {e : Expr} {f : EF} {pos : Pos}
@[simp] def sAsgL (l : List Nat) (f : EF) : SF := fun sg st => (f sg st).flw sg fun d st1 => match lstOf d st1 with
  | some ds => (match setT (.many l) (.tup ds) sg with
    | some sg1 => .nx sg1 st1
    | none => .bad)
  | none => .bad
theorem ss_asgL {es : List Expr} {k : Nat} {ps : Pos} {l : List Nat} (hc : X.calm = true) (h : PGs X es (gNs l)) (he : SE X W e f) (hn : (assignEach es X.env).length = l.length := by rfl) (hst : (assignEach es X.env).findIdx? (·.1) = none := by rfl)
    (hs : swapsWithSole [.Tuple es k ps] e pos.line X.env = pure false := by rfl) (hw : swappedStores [.Tuple es k ps] e X.env = pure none := by rfl) (h1 : (assignEach [.Tuple es k ps] X.env).map (·.2) = [assign (.Tuple es k ps) X.env] := by rfl) : SS X W (.Assign [.Tuple es k ps] e pos) (sAsgL l f) :=
  ps_weak (ps_asg he (pg_unl hc h hn hst) hs hw h1) fun D σ H ⟨m, sg, st, e, rm, rs, hp⟩ => ⟨m, sg, st, e, rm, rs, flwc hp rs fun m1 y v st1 e1 r1 q1 hp1 => by
    split at hp1
    · rename_i ds hd
      split at hp1
      · rename_i sg1 hh
        obtain ⟨p, vs, rfl, sq, rr⟩ := lst_of r1 q1 hd
        obtain ⟨a1, a2⟩ := setL_rep (by simpa using hh) rr (rs.mono e1)
        exact ⟨_, _, rfl, sq, a2, gNs_of a2 (hp1 m1 _ (Ext.refl _) r1 a1)⟩
      · exact False.elim hp1
    · exact False.elim hp1⟩
end
end Sh
/-! Part ZA: dicts of the store read, asked, set, popped; objects that stay in the store. -/
namespace Sh
open PySem L2 He
section
variable {X : Cx} {W : We} {e o b : Expr} {f fo fi fe : EF} {pos ps apos cpos : Pos}
/-- d[k] -/
def dDget (x k : D) (st : Sto) : Res D := match x, dKey k with
  | .loc n, some k => match kvS st[n]? with
    | some l => match getD l k with
      | some d => .ok d st
      | none => .bad
    | none => .bad
  | _, _ => .bad
@[simp] def fDget (fo fi : EF) : EF := fun sg st => (fo sg st).bind fun x st1 => (fi sg st1).bind fun k st2 => dDget x k st2
theorem se_dget (hu : X.A.units + 1 < cLine) (ho : SE X W o fo) (hi : SE X W b fi) (hs : NoSl b) : SE X W (.Subscript o b pos) (fDget fo fi) :=
  pe_weak (pe_dget hu ho hi hs) fun σ H Q ⟨m, sg, st, e, rm, rs, hp⟩ => ⟨m, sg, st, e, rm, rs, hp.bindc fun m1 x v st1 e1 r1 q1 hp1 => ⟨m1, sg, st1, rfl, r1, rs.mono e1, hp1.bindc fun m2 k w st2 e2 r2 q2 hp2 => by
    unfold dDget at hp2
    split at hp2
    · rename_i n k' hk
      split at hp2
      · rename_i l hl
        split at hp2
        · rename_i d hd
          obtain ⟨a, kvs, rfl, k1, k2⟩ := dict_rd r2 (q1.mono e2) hl
          have := key_rep q2 hk
          subst this
          rcases k2.get k' with ⟨h1, h2⟩ | ⟨d', v', h1, h2, h3⟩
          · rw [h1] at hd; cases hd
          · rw [h1] at hd
            cases hd
            exact ⟨a, v', rfl, by have z := DGet.kR (k := k') k1; rw [h2] at z; exact z, hp2.okc r2 h3⟩
        · exact False.elim hp2
      · exact False.elim hp2
    · exact False.elim hp2⟩⟩
/-- k in d -/
def dInD (neg : Bool) : D → D → Sto → Res D := fun k x st => match x, dKey k with
  | .loc n, some k => match kvS st[n]? with
    | some l => .ok (.bl (if neg then !(getD l k).isSome else (getD l k).isSome)) st
    | none => .bad
  | _, _ => .bad
abbrev rInD : R2 := fun x y H Q => ∃ a o, y = .ref a ∧ DGet H a x o ∧ Q (.bl o.isSome) H
abbrev rNotInD : R2 := fun x y H Q => ∃ a o, y = .ref a ∧ DGet H a x o ∧ Q (.bl (!o.isSome)) H
theorem op_inD (hu : X.A.units + 1 < cLine) : OpR X (compareOp .In) rInD := by
  intro pins s σ H x y v u Q I rx ry h
  obtain ⟨a, o, rfl, g, q⟩ := h
  obtain rfl : u = Value.ref a := ry
  exact d_in hu I g rx fun s' I' => ⟨.bl o.isSome, H, I', rfl, q⟩
theorem op_notInD (hu : X.A.units + 1 < cLine) : OpR X (compareOp .NotIn) rNotInD := by
  intro pins s σ H x y v u Q I rx ry h
  obtain ⟨a, o, rfl, g, q⟩ := h
  obtain rfl : u = Value.ref a := ry
  exact d_notIn hu I g rx fun s' I' => ⟨.bl (!o.isSome), H, I', rfl, q⟩
theorem fits_inD : Fits2 X W rInD (dInD false) := by
  intro m st σ x y v w Q rm ra rb hp
  unfold dInD at hp
  split at hp
  · rename_i n k' hk
    split at hp
    · rename_i l hl
      obtain ⟨a, kvs, rfl, k1, k2⟩ := dict_rd rm rb hl
      have := key_rep ra hk
      subst this
      refine ⟨a, _, rfl, DGet.kR k1, ?_⟩
      have e : (valV kvs k').isSome = (getD l k').isSome := by
        rcases k2.get k' with ⟨h1, h2⟩ | ⟨d', v', h1, h2, h3⟩ <;> rw [h1, h2] <;> rfl
      rw [e]
      exact hp.okc rm (.bl _)
    · exact False.elim hp
  · exact False.elim hp
theorem fits_notInD : Fits2 X W rNotInD (dInD true) := by
  intro m st σ x y v w Q rm ra rb hp
  unfold dInD at hp
  split at hp
  · rename_i n k' hk
    split at hp
    · rename_i l hl
      obtain ⟨a, kvs, rfl, k1, k2⟩ := dict_rd rm rb hl
      have := key_rep ra hk
      subst this
      refine ⟨a, _, rfl, DGet.kR k1, ?_⟩
      have e : (valV kvs k').isSome = (getD l k').isSome := by
        rcases k2.get k' with ⟨h1, h2⟩ | ⟨d', v', h1, h2, h3⟩ <;> rw [h1, h2] <;> rfl
      rw [e]
      exact hp.okc rm (.bl _)
    · exact False.elim hp
  · exact False.elim hp
/-- d[k] = x -/
def stDict (x k d : D) (st : Sto) : Option Sto := match x, dKey k with
  | .loc n, some k => match st[n]? with
    | some (.dict l) => if l.length < 16777216 then some (st.set n (.dict (putD l k d))) else none
    | _ => none
  | _, _ => none
theorem dict_put {m : Hw} {st st4 : Sto} {x k d : D} {w wk v : V} (hst : stDict x k d st = some st4) (q : Rep X.K X.mg m.r m.g x w) (qk : Rep X.K X.mg m.r m.g k wk) (rm : Rel X.K X.mg m st) (q1 : Rep X.K X.mg m.r m.g d v) :
    ∃ a kvs', w = .ref a ∧ DPut m.h a wk v (upd m.h a (.dK kvs')) ∧ Ext m (m.put a (.dK kvs')) ∧ Rel X.K X.mg (m.put a (.dK kvs')) st4 := by
  unfold stDict at hst
  split at hst
  · rename_i n k' hk
    split at hst
    · rename_i l hl
      split at hst
      · rename_i hz
        cases hst
        obtain ⟨a, kvs, rfl, k1, k2⟩ := dict_at rm q hl
        have := key_rep qk hk
        subst this
        have hm := k2.put (k := k') q1
        have hlen : kvs.length < sizeLine := by
          have z := congrArg List.length k2.to.1
          simp at z
          rw [z]
          exact (show l.length < sizeLine from hz)
        cases q with
        | loc hr => exact ⟨a, _, rfl, .inl ⟨kvs, k', k1, rfl, hlen, rfl⟩, Ext.put (List.mem_of_getElem? hr), rm.put hr ⟨_, upd_same, hm.to.1, hm.to.2⟩⟩
      · cases hst
    · cases hst
  · cases hst
def rDput (fo fi f : EF) : Sg → Sto → Res Unit := fun sg st => (f sg st).bind fun d st1 => (fo sg st1).bind fun x st2 => (fi sg st2).bind fun i st3 => match stDict x i d st3 with
  | some st4 => .ok () st4
  | none => .bad
@[simp] def sDput (fo fi f : EF) : SF := fun sg st => (rDput fo fi f sg st).flw sg fun _ st4 => .nx sg st4
theorem ss_dput (hu : X.A.units + 1 < cLine) (ho : SE X W o fo) (hi : SE X W b fi) (he : SE X W e f) (hs : swapsWithSole [.Subscript o b ps] e pos.line X.env = pure false := by rfl) (hw : swappedStores [.Subscript o b ps] e X.env = pure none := by rfl) (h1 : (assignEach [.Subscript o b ps] X.env).map (·.2) = [assign (.Subscript o b ps) X.env] := by rfl)
    (ha : ∀ v, assign (.Subscript o b ps) X.env v = (do
      let ov ← holding [v] (eval o X.env)
      let iv ← holding [v, ov] (eval b X.env)
      standAt ps
      holding [v, ov, iv] (setItem ov iv v)
      release [v, ov, iv] []) := by intro _; rfl) : SS X W (.Assign [.Subscript o b ps] e pos) (sDput fo fi f) :=
  ps_weak (ps_asg he (pg_sub ho hi (set_dict hu) ha) hs hw h1) fun D σ H ⟨m, sg, st, e, rm, rs, hp⟩ => ⟨m, sg, st, e, rm, rs, by
    have hp' := flwc (r := rDput fo fi f sg st) (R := fun _ _ _ => True) (β := Unit) (Q := fun _ H3 => D.nx σ H3) hp rs fun m1 y v st1 e1 r1 q1 hp1 => hp1 m1 _ (Ext.refl _) r1 (rs.mono e1)
    unfold rDput at hp'
    refine hp'.bindc fun m1 d v st1 e1 r1 q1 hp1 => ⟨m1, sg, st1, rfl, r1, rs.mono e1, hp1.bindc fun m2 x w st2 e2 r2 q2 hp2 => ⟨m2, sg, st2, rfl, r2, (rs.mono e1).mono e2, hp2.bindc fun m3 i u st3 e3 r3 q3 hp3 => ?_⟩⟩
    split at hp3
    · rename_i st4 hst
      obtain ⟨a, kvs', rfl, dp, e4, r4⟩ := dict_put hst (q2.mono e3) q3 r3 ((q1.mono e2).mono e3)
      exact ⟨_, _, rfl, dp, hp3 _ () e4 r4 trivial⟩
    · exact False.elim hp3⟩
/-- d.pop(k) -/
def dropD (l : List (Key × D)) (k : Key) : List (Key × D) := l.filter fun kv => decide (kv.1 ≠ k)
theorem KRel.drop {K : PySem.W.Frag} {mg : Str → Option Value} {r : List Addr} {G : Hp} {l : List (Key × D)} {vs : List (Key × V)} (h : KRel K mg r G l vs) (k : Key) : KRel K mg r G (dropD l k) (dropK vs k) := by
  unfold dropD dropK
  induction h with
  | nil => exact .nil
  | @cons k' d' v' l vs h t ih =>
    simp only [List.filter_cons]
    by_cases e : k' = k
    · simp only [e, ne_eq, not_true_eq_false, decide_false, Bool.false_eq_true, if_false]; exact ih
    · simp only [ne_eq, e, not_false_eq_true, decide_true, if_true]; exact .cons h ih
def dDpop (x k : D) (st : Sto) : Res D := match x, dKey k with
  | .loc n, some k => match st[n]? with
    | some (.dict l) => match getD l k with
      | some d => .ok d (st.set n (.dict (dropD l k)))
      | none => .bad
    | _ => .bad
  | _, _ => .bad
@[simp] def fDpop (fo fi : EF) : EF := fun sg st => (fo sg st).bind fun x st1 => if isDict x st1 = true then ((fi sg st1).bind fun k st2 => dDpop x k st2) else .bad
theorem se_dpop (ho : SE X W o fo) (hi : SE X W b fi) (m : M1 X o "pop" apos b cpos) : SE X W (.Call (.Attribute o "pop" apos) [b] [] cpos) (fDpop fo fi) :=
  pe_weak (pe_dpop1 ho hi m) fun σ H Q ⟨m, sg, st, e, rm, rs, hp⟩ => ⟨m, sg, st, e, rm, rs, hp.bindc fun m1 x v st1 e1 r1 q1 hp1 => by
    split at hp1
    · rename_i hd
      obtain ⟨a, rfl, ia⟩ := isDict_at r1 q1 hd
      refine ⟨a, rfl, ia, m1, sg, st1, rfl, r1, rs.mono e1, hp1.bindc fun m2 k w st2 e2 r2 q2 hp2 => ?_⟩
      unfold dDpop at hp2
      split at hp2
      · rename_i n k' hk
        split at hp2
        · rename_i l hl
          split at hp2
          · rename_i d hd
            obtain ⟨a', kvs, ea, k1, k2⟩ := dict_at r2 (q1.mono e2) hl
            cases ea
            have := key_rep q2 hk
            subst this
            rcases k2.get k' with ⟨h1, h2⟩ | ⟨d', v', h1, h2, h3⟩
            · rw [h1] at hd; cases hd
            · rw [h1] at hd
              cases hd
              have hm := k2.drop k'
              cases q1.mono e2 with
              | loc hr =>
                have ex : Ext m2 (m2.put a (.dK (dropK kvs k'))) := Ext.put (List.mem_of_getElem? hr)
                exact ⟨kvs, k', v', k1, rfl, h2, hp2 (m2.put a (.dK (dropK kvs k'))) v' ex (r2.put hr ⟨_, upd_same, hm.to.1, hm.to.2⟩) (h3.mono ex)⟩
          · exact False.elim hp2
        · exact False.elim hp2
      · exact False.elim hp2
    · exact False.elim hp1⟩
end
end Sh
/-! Part ZB: objects that stay in the store. -/
namespace Sh
open PySem L2
section
variable {X : Cx} {W : We} {e : Expr} {es : List Expr} {g : AF} {pos p : Pos} {x : Str} {k n : Nat} {fn C fa : Addr} {fd : FuncData} {ps : List Str} {F : FF} {dvs : List V} {ds : List Value} {dds : List D}
def mkLG (c : Nat) (Fk : D → Sto → Res D) : Sto → Res D := fun st => match Fk (.loc st.length) (st ++ [.ins c []]) with
  | .ok .non st2 => .ok (.loc st.length) st2
  | .exc c o st2 => .exc c o st2
  | _ => .bad
def mkL (c : Nat) (F : FF) (n : Nat) (dds : List D) : FF := fun l st => mkLG c (fun x => cF F n dds (x :: l)) st
theorem mkLG_post {ci : Nat} {σ : St} {w : Hw} {stt : Sto} {Fk : D → Sto → Res D} {Q : VK} (rm : Rel X.K X.mg w stt) (hp : Post X.K X.mg W.w w σ (RD X.K X.mg) Q (mkLG ci Fk stt)) :
    ∀ x dx, w.h x = none → w.h dx = none → dx ≠ x → Post X.K X.mg W.w ⟨w.r ++ [x], w.g, upd (upd w.h dx (.own x)) x (.ins C dx [])⟩ σ (RD X.K X.mg) (fun v H2 => v = .non ∧ Q (.ref x) H2) (Fk (.loc stt.length) (stt ++ [.ins ci []])) := by
  intro x dx hx hdx hne
  have e0 : Ext w ⟨w.r ++ [x], w.g, upd (upd w.h dx (.own x)) x (.ins C dx [])⟩ := by
    refine ⟨⟨[x], rfl⟩, fun _ _ z => z, fun a u q n => ⟨?_, ?_, fun z => z⟩⟩
    · show upd (upd w.h dx (.own x)) x (.ins C dx []) a = some u
      rw [upd_ne (ne_of_none q hx), upd_ne (ne_of_none q hdx)]; exact q
    · have : a ≠ x := ne_of_none q hx
      show a ∉ w.r ++ [x]
      simp [n, this]
  unfold mkLG at hp
  split at hp
  · rename_i st2 hq
    rw [hq]
    intro m' v e1 r1 q1
    cases q1
    have hat : m'.r[stt.length]? = some x := e1.at_ (by
      show (w.r ++ [x])[stt.length]? = _
      rw [← rm.len, List.getElem?_append_right (Nat.le_refl _)]
      simp)
    exact ⟨rfl, hp m' (.ref x) (e0.trans e1) r1 (.loc hat)⟩
  · rename_i c o st2 hq
    rw [hq]
    intro m' cls dx' e1 r1 q1
    exact hp m' cls dx' (e0.trans e1) r1 q1
  · exact False.elim hp
theorem se_makeL {ci : Nat} (h : DefOk X.prog X.w X.K X.mg X.base k fa ps dvs F) (j : Nat) (hj : j ≤ dvs.length) (hd : ∀ r G, Reps X.K X.mg r G dds (dvs.drop j)) (hr : Room (k + 1) X.A) (tk : Takes X W.w) (hc : X.mg (cName ci) = some (.ref C)) (M : Mk X.K C fa) (hg : Gl X x) (hm : X.mg x = some (.ref C))
    (ha : SA X W (e :: es) g) (hdb : (x == ("__debug__" : Str)) = false := by decide) (he : starEach (e :: es) X.env = (false, eval e X.env) :: starEach es X.env := by rfl) (hpl : (backTo pos (starEach es X.env)).any (·.1) = false := by rfl) :
    SE X W (.Call (.Name x p) (e :: es) [] pos) (fCall (mkL ci F ps.length dds) g) := by
  obtain ⟨⟨fd, hF, h2, _⟩, h3⟩ := h
  obtain ⟨ds, v, hb⟩ := h2 j hj
  have hd : Dfl X.K X.mg ds (dvs.drop j) dds := ⟨v, hd⟩
  refine ⟨fun pins s σ H Q I h => ?_⟩
  obtain ⟨w, sg, st, rfl, rm, rs, hp⟩ := h
  refine wpAny_Call_Name_kw (ld_glob I hg hm ?_ hdb)
  refine PySem.W.callWith_K (h₀ := X.base) I.ok.mod.kin M.kp (thn (ha.run pos pins s σ w.h (fun vs H2 => ∃ m2 l st2, m2.h = H2 ∧ Rel X.K X.mg m2 st2 ∧ Reps X.K X.mg m2.r m2.g l vs ∧ Post X.K X.mg W.w m2 σ (RD X.K X.mg) Q (mkL ci F ps.length dds l st2)) I
    ⟨w, sg, st, rfl, rm, rs, hp.bindc fun m2 l vs st2 e2 r2 q2 hp2 => ⟨m2, l, st2, rfl, r2, q2, hp2⟩⟩) fun us s1 hz => ?_) he hpl
  obtain ⟨vs, H2, I2, rv2, m2, l, st2, rfl, r2, q2, hp2⟩ := hz
  exact ⟨I2.kIn, run_makeS hc M hF hr tk hb hd I2 rv2 r2 q2 (mkLG_post (Fk := fun x => cF F ps.length dds (x :: l)) r2 hp2)⟩
theorem se_makeL0 {ci : Nat} (h : DefOk X.prog X.w X.K X.mg X.base k fa ps dvs F) (j : Nat) (hj : j ≤ dvs.length) (hd : ∀ r G, Reps X.K X.mg r G dds (dvs.drop j)) (hr : Room (k + 1) X.A) (tk : Takes X W.w) (hc : X.mg (cName ci) = some (.ref C)) (M : Mk X.K C fa) (hg : Gl X x) (hm : X.mg x = some (.ref C))
    (hdb : (x == ("__debug__" : Str)) = false := by decide) : SE X W (.Call (.Name x p) [] [] pos) (fCall (mkL ci F ps.length dds) aNil) := by
  obtain ⟨⟨fd, hF, h2, _⟩, h3⟩ := h
  obtain ⟨ds, v, hb⟩ := h2 j hj
  have hd : Dfl X.K X.mg ds (dvs.drop j) dds := ⟨v, hd⟩
  refine ⟨fun pins s σ H Q I h => ?_⟩
  obtain ⟨w, sg, st, rfl, rm, rs, hp⟩ := h
  refine wpAny_Call_Name_kw (ld_glob I hg hm ?_ hdb)
  exact PySem.W.callWith_K0 I.kIn M.kp (run_makeS (us := []) hc M hF hr tk hb hd I .nil rm .nil (mkLG_post (Fk := fun x => cF F ps.length dds (x :: [])) rm hp))
end
/-! o.x += e -/
section
variable {X : Cx} {W : We} {e o : Expr} {f fo : EF} {pos tpos : Pos} {m : Str} {C : Addr} {sem : D → D → Sto → Res D} {r : TIp} {op : Operator}
def rAugF (c i : Nat) (sem : D → D → Sto → Res D) (fo f : EF) : Sg → Sto → Res Unit := fun sg st => (fo sg st).bind fun x st1 => match x with
  | .loc n => match st1[n]? with
    | some (.ins c' l) => if c' = c then (match l[i]? with
      | some d => (f sg st1).bind fun y st2 => (sem d y st2).bind fun z st3 => match st3[n]? with
        | some (.ins c2 l2) => if c2 = c ∧ i < l2.length then .ok () (st3.set n (.ins c (l2.set i z))) else .bad
        | _ => .bad
      | none => .bad) else .bad
    | _ => .bad
  | _ => .bad
@[simp] def sAugF (c i : Nat) (sem : D → D → Sto → Res D) (fo f : EF) : SF := fun sg st => (rAugF c i sem fo f sg st).flw sg fun _ st4 => .nx sg st4
theorem ss_augF {ci i : Nat} (hc : X.mg (cName ci) = some (.ref C)) (cl : Cls X.K C) (na : NoAttr X.K C m) (hf : (cFlds ci)[i]? = some m) (hnd : (cFlds ci).Nodup) (hlen : (cFlds ci).length < 1000) (ho : SE X W o fo) (he : SE X W e f) (hop : PIp X op r) (hs : Fits2 X W r sem) :
    SS X W (.AugAssign (.Attribute o m tpos) op e pos) (sAugF ci i sem fo f) :=
  ps_weak (ps_fldaug ho he hop) fun D σ H ⟨w, sg, st, e, rm, rs, hp⟩ => ⟨w, sg, st, e, rm, rs, by
    have hp' := flwc (r := rAugF ci i sem fo f sg st) (R := fun _ _ _ => True) (β := Unit) (Q := fun _ H3 => D.nx σ H3) hp rs fun m1 y v st1 e1 r1 q1 hp1 => hp1 m1 _ (Ext.refl _) r1 (rs.mono e1)
    unfold rAugF at hp'
    refine hp'.bindc fun m1 x u st1 e1 r1 q1 hp1 => ?_
    split at hp1
    · rename_i n
      split at hp1
      · rename_i c' l hl
        split at hp1
        · rename_i hcc
          subst hcc
          split at hp1
          · rename_i d hd
            cases q1 with
            | loc hr =>
              obtain ⟨C', dx, fs, k1, k2, k3, k4⟩ := r1.obj _ _ _ hr hl
              rw [hc] at k1
              cases k1
              obtain ⟨v, hv, qv⟩ := k4.get hd
              have hi : i < l.length := (List.getElem?_eq_some_iff.mp hd).1
              refine ⟨_, C, dx, fs, v, rfl, k2, cl, na, lookup_at k3 (hnd.sublist (List.take_sublist _ _)) (take_at hf hi) hv, m1, sg, st1, rfl, r1, rs.mono e1, hp1.bindc fun m2 y wy st2 e2 r2 q2 hp2 => ?_⟩
              refine hs m2 st2 σ d y v wy _ r2 (qv.mono e2) q2 (hp2.bindc fun m3 z wz st3 e3 r3 q3 hp3 => ?_)
              split at hp3
              · rename_i c2 l2 hl2
                split at hp3
                · rename_i hcc
                  obtain ⟨rfl, hi2⟩ := hcc
                  have hr3 := e3.at_ (e2.at_ hr)
                  obtain ⟨C2, dx2, fs2, j1, j2, j3, j4⟩ := r3.obj _ _ _ hr3 hl2
                  rw [hc] at j1
                  cases j1
                  have hlf : fs2.length = l2.length := by have := j4.length; simpa using this.symm
                  have hll : l2.length ≤ (cFlds c2).length := by
                    have z := congrArg List.length j3
                    simp at z
                    omega
                  obtain ⟨z1, z2⟩ := putF_old (y := wz) j3 (hnd.sublist (List.take_sublist _ _)) (take_at hf hi2)
                  exact ⟨dx2, fs2, j2, by omega, hp3 (m3.put _ (.ins C dx2 (putF m wz fs2))) () (Ext.put (List.mem_of_getElem? hr3)) (r3.put hr3 ⟨C, dx2, _, hc, upd_same, by rw [z1]; simp [j3], by rw [z2]; exact j4.set q3 i⟩) trivial⟩
                · exact False.elim hp3
              · exact False.elim hp3
          · exact False.elim hp1
        · exact False.elim hp1
      · exact False.elim hp1
    · exact False.elim hp1⟩
end
/-- {} that changes -/
def fNewD : EF := fun _ st => .ok (.loc st.length) (st ++ [.dict []])
theorem se_newD {X : Cx} {W : We} {x : Expr} (h : PE X x (fun _ H Q => ∀ d, H d = none → Q (.ref d) (upd H d (.dK [])))) : SE X W x fNewD := pe_weak h fun σ H Q ⟨m, sg, st, em, rm, rs, hp⟩ => by
  subst em
  intro p hn
  have at0 : (m.new p (.dK [])).r[st.length]? = some p := by
    show (m.r ++ [p])[st.length]? = _
    rw [← rm.len, List.getElem?_append_right (Nat.le_refl _)]
    simp
  exact hp (m.new p (.dK [])) (.ref p) (Ext.new rm hn) (rm.new hn ⟨[], upd_same, rfl, .nil⟩) (.loc at0)
end Sh
/-! Part ZC: a dict that is walked is locked; the suite leaves the store as it was. -/
namespace Sh
open PySem L2 He
def Flw.atSt (s : Sto) : Flw → Flw
  | .nx sg _ => .nx sg s
  | .ret d _ => .ret d s
  | .brk sg _ => .brk sg s
  | .cnt sg _ => .cnt sg s
  | .exc c o sg _ => .bad
  | .bad => .bad
def lockAt (st : Sto) (n : Nat) (l : List (Key × D)) (o : Obj) (kvs : List (Key × V)) : Sto := st.set n (.lock l o kvs)
open Classical in
noncomputable def sLock (fo : EF) (g : SF) : SF := fun sg st => match fo sg st with
  | .ok (.loc n) _ => match st[n]? with
    | some (.dict l) => if h : ∃ w : Flw, ∀ o kvs, g sg (lockAt st n l o kvs) = w.atSt (lockAt st n l o kvs) then (Classical.choose h).atSt st else .bad
    | _ => .bad
  | _ => .bad
theorem atSt_eq {w w' : Flw} {s s' : Sto} (h : w.atSt s = w'.atSt s) : w.atSt s' = w'.atSt s' := by
  cases w <;> cases w' <;> simp [Flw.atSt] at h ⊢ <;> exact h
theorem sLock_eq {fo : EF} {g : SF} {sg : Sg} {st st' : Sto} {n : Nat} {l : List (Key × D)} {w : Flw} (e : fo sg st = .ok (.loc n) st') (hn : st[n]? = some (.dict l)) (h : ∀ o kvs, g sg (lockAt st n l o kvs) = w.atSt (lockAt st n l o kvs)) : sLock fo g sg st = w.atSt st := by
  unfold sLock
  rw [e]
  dsimp only
  rw [hn]
  dsimp only
  have hx : ∃ w : Flw, ∀ o kvs, g sg (lockAt st n l o kvs) = w.atSt (lockAt st n l o kvs) := ⟨w, h⟩
  rw [dif_pos hx]
  let o : Obj := { cls := .type "dict", dict := none, data := .dict #[] 0, slots := #[] }
  have a := Classical.choose_spec hx o []
  have b := h o []
  rw [a] at b
  exact atSt_eq b
section
variable {X : Cx} {W : We} {s : Stmt}
theorem ss_lock {fo : EF} {g : SF} (h : SS X W s g) : SS X W s (sLock fo g) :=
  ps_weak (ps_lock h) fun D σ H ⟨m, sg, st, e, rm, rs, hp⟩ => by
    subst e
    unfold sLock at hp
    split at hp
    · rename_i n st' hf
      split at hp
      · rename_i l hl
        split at hp
        · rename_i hx
          have hn : n < st.length := (List.getElem?_eq_some_iff.mp hl).1
          have hr : n < m.r.length := by rw [rm.len]; exact hn
          have ra : m.r[n]? = some m.r[n] := List.getElem?_eq_getElem hr
          obtain ⟨kvs, k1, k2, k3⟩ := rm.obj n m.r[n] _ ra hl
          generalize m.r[n] = a at ra k1
          have am : a ∈ m.r := List.mem_of_getElem? ra
          refine ⟨a, .dK kvs, k1, trivial, fun od => ?_⟩
          have w := Classical.choose_spec hx od kvs
          have e1 : Ext m (m.put a (.frz od (.dK kvs))) := Ext.put am
          have r1 : Rel X.K X.mg (m.put a (.frz od (.dK kvs))) (lockAt st n l od kvs) := rm.put ra ⟨upd_same, k2, k3⟩
          refine ⟨m.put a (.frz od (.dK kvs)), sg, lockAt st n l od kvs, rfl, r1, rs.mono e1, ?_⟩
          rw [w]
          have ln : (lockAt st n l od kvs)[n]? = some (.lock l od kvs) := by unfold lockAt; simp [hn]
          have back : (lockAt st n l od kvs).set n (.dict l) = st := by
            unfold lockAt
            rw [List.set_set]
            have := (List.getElem?_eq_some_iff.mp hl).2
            rw [← this, List.set_getElem_self]
          have key : ∀ m2 : Hw, Ext (m.put a (.frz od (.dK kvs))) m2 → Rel X.K X.mg m2 (lockAt st n l od kvs) → m2.h a = some (.frz od (.dK kvs)) ∧ Ext m (m2.put a (.dK kvs)) ∧ Ext m2 (m2.put a (.dK kvs)) ∧ Rel X.K X.mg (m2.put a (.dK kvs)) st := fun m2 e2 r2 => by
            have ra2 : m2.r[n]? = some a := e2.at_ (e1.at_ ra)
            obtain ⟨j1, j2, j3⟩ := r2.obj n a _ ra2 ln
            have e3 : Ext m2 (m2.put a (.dK kvs)) := Ext.put (List.mem_of_getElem? ra2)
            refine ⟨j1, (e1.trans e2).trans e3, e3, ?_⟩
            have := r2.put (so := .dict l) ra2 ⟨kvs, upd_same, j2, j3⟩
            rwa [back] at this
          generalize Classical.choose hx = c at hp
          cases c with
          | nx sg2 s2 => exact fun m2 σ2 e2 r2 s2 => let ⟨a1, a2, a3, a4⟩ := key m2 e2 r2; ⟨a1, hp _ σ2 a2 a4 (s2.mono a3)⟩
          | ret d s2 => exact fun m2 v e2 r2 q2 => let ⟨a1, a2, a3, a4⟩ := key m2 e2 r2; ⟨a1, hp _ v a2 a4 (q2.mono a3)⟩
          | brk sg2 s2 => exact fun m2 σ2 e2 r2 s2 => let ⟨a1, a2, a3, a4⟩ := key m2 e2 r2; ⟨a1, hp _ σ2 a2 a4 (s2.mono a3)⟩
          | cnt sg2 s2 => exact fun m2 σ2 e2 r2 s2 => let ⟨a1, a2, a3, a4⟩ := key m2 e2 r2; ⟨a1, hp _ σ2 a2 a4 (s2.mono a3)⟩
          | exc _ _ _ _ => exact False.elim hp
          | bad => exact False.elim hp
        · exact False.elim hp
      · exact False.elim hp
    · exact False.elim hp
end
/-! the walks of a locked dict -/
def kyD : Key → D
  | .inl i => .int i
  | .inr x => .str x
theorem kyD_rep {K : PySem.W.Frag} {mg : Str → Option Value} {r : List Addr} {G : Hp} : ∀ k : Key, Rep K mg r G (kyD k) (kV k)
  | .inl i => .int i
  | .inr x => .str x
@[simp] def iItemsD (f : EF) : IF := fun sg st => (f sg st).bind fun x st1 => match x with
  | .loc n => match st1[n]? with
    | some (.lock l o kvs) => .ok ⟨l.map fun kv => .tup [kyD kv.1, kv.2], fun st => st[n]? = some (.lock l o kvs)⟩ st1
    | _ => .bad
  | _ => .bad
@[simp] def iValsD (f : EF) : IF := fun sg st => (f sg st).bind fun x st1 => match x with
  | .loc n => match st1[n]? with
    | some (.lock l o kvs) => .ok ⟨l.map (·.2), fun st => st[n]? = some (.lock l o kvs)⟩ st1
    | _ => .bad
  | _ => .bad
section
variable {X : Cx} {W : We} {tg e : Expr} {f : EF} {apos cpos tpos : Pos} {elts : List Expr} {kk : Nat}
theorem kv_at {K : PySem.W.Frag} {mg : Str → Option Value} {r : List Addr} {G : Hp} {l : List (Key × D)} {kvs : List (Key × V)} (h2 : kvs.map (·.1) = l.map (·.1)) (h3 : Reps K mg r G (l.map (·.2)) (kvs.map (·.2))) {i : Nat} {k : Key} {d : D} (hd : l[i]? = some (k, d)) : ∃ v, kvs[i]? = some (k, v) ∧ Rep K mg r G d v := by
  have a : (kvs.map (·.1))[i]? = some k := by rw [h2, List.getElem?_map, hd]; rfl
  obtain ⟨v, b, c⟩ := h3.get (i := i) (d := d) (by rw [List.getElem?_map, hd]; rfl)
  rw [List.getElem?_map] at a b
  obtain ⟨x, hx, e1⟩ := Option.map_eq_some_iff.mp a
  rw [hx] at b
  obtain ⟨k', v'⟩ := x
  simp at e1 b
  subst e1; subst b
  exact ⟨v', hx, c⟩
theorem si_items (he : SE X W e f) (hb : attributeBase e "items" X.env (eval e X.env) = eval e X.env := by rfl) (hl : (apos.endLine == cpos.line) = true := by rfl) : SI X W (.Tuple elts kk tpos) (.Call (.Attribute e "items" apos) [] [] cpos) (iItemsD f) :=
  pi_weak (pi_items he hb hl) fun σ H R ⟨m, sg, st, e, rm, rs, hp⟩ => ⟨m, sg, st, e, rm, rs, hp.bindc fun m1 x v st1 e1 r1 q1 hp1 => by
    split at hp1
    · rename_i n
      split at hp1
      · rename_i l o kvs hn
        cases q1 with
        | loc hr =>
          obtain ⟨k1, k2, k3⟩ := r1.obj _ _ _ hr hn
          refine ⟨_, o, kvs, rfl, k1, hp1.okc r1 fun m2 st2 e2 r2 c2 i => ?_⟩
          obtain ⟨j1, j2, j3⟩ := r2.obj _ _ _ (e2.at_ hr) c2
          have hlen : kvs.length = l.length := by have := congrArg List.length j2; simpa using this
          refine ⟨fun hi => ⟨j1, by rw [hlen]; simpa using hi⟩, fun d hd => ?_⟩
          rw [List.getElem?_map] at hd
          obtain ⟨⟨k, dd⟩, hkd, rfl⟩ := Option.map_eq_some_iff.mp hd
          obtain ⟨v, a1, a2⟩ := kv_at j2 j3 hkd
          refine ⟨⟨j1, (List.getElem?_eq_some_iff.mp a1).1⟩, fun y H' ⟨T, k', v', b1, b2, b3, b4⟩ => ?_⟩
          rw [a1] at b1
          cases b1
          subst b2
          rw [b4]
          exact pair_ok r2 b3 (kyD_rep k) a2
      · exact False.elim hp1
    · exact False.elim hp1⟩
theorem si_vals (he : SE X W e f) (hb : attributeBase e "values" X.env (eval e X.env) = eval e X.env := by rfl) (hl : (apos.endLine == cpos.line) = true := by rfl) : SI X W tg (.Call (.Attribute e "values" apos) [] [] cpos) (iValsD f) :=
  pi_weak (pi_values he hb hl) fun σ H R ⟨m, sg, st, e, rm, rs, hp⟩ => ⟨m, sg, st, e, rm, rs, hp.bindc fun m1 x v st1 e1 r1 q1 hp1 => by
    split at hp1
    · rename_i n
      split at hp1
      · rename_i l o kvs hn
        cases q1 with
        | loc hr =>
          obtain ⟨k1, k2, k3⟩ := r1.obj _ _ _ hr hn
          refine ⟨_, o, kvs, rfl, k1, hp1.okc r1 fun m2 st2 e2 r2 c2 i => ?_⟩
          obtain ⟨j1, j2, j3⟩ := r2.obj _ _ _ (e2.at_ hr) c2
          have hlen : kvs.length = l.length := by have := congrArg List.length j2; simpa using this
          refine ⟨fun hi => ⟨j1, by rw [hlen]; simpa using hi⟩, fun d hd => ?_⟩
          rw [List.getElem?_map] at hd
          obtain ⟨⟨k, dd⟩, hkd, rfl⟩ := Option.map_eq_some_iff.mp hd
          obtain ⟨v, a1, a2⟩ := kv_at j2 j3 hkd
          refine ⟨⟨j1, (List.getElem?_eq_some_iff.mp a1).1⟩, fun y H' ⟨b1, k', b2⟩ => ?_⟩
          rw [a1] at b2
          cases b2
          exact ⟨m2, b1.symm, Ext.refl _, r2, a2⟩
      · exact False.elim hp1
    · exact False.elim hp1⟩
end
/-! the same for an expression -/
def Res.atSt {α : Type} (s : Sto) : Res α → Res α
  | .ok d _ => .ok d s
  | _ => .bad
open Classical in
noncomputable def eLock (fo f : EF) : EF := fun sg st => match fo sg st with
  | .ok (.loc n) _ => match st[n]? with
    | some (.dict l) => if h : ∃ w : Res D, ∀ o kvs, f sg (lockAt st n l o kvs) = w.atSt (lockAt st n l o kvs) then (Classical.choose h).atSt st else .bad
    | _ => .bad
  | _ => .bad
theorem ratSt_eq {w w' : Res D} {s s' : Sto} (h : w.atSt s = w'.atSt s) : w.atSt s' = w'.atSt s' := by
  cases w <;> cases w' <;> simp [Res.atSt] at h ⊢ <;> exact h
theorem eLock_eq {fo f : EF} {sg : Sg} {st st' : Sto} {n : Nat} {l : List (Key × D)} {w : Res D} (e : fo sg st = .ok (.loc n) st') (hn : st[n]? = some (.dict l)) (h : ∀ o kvs, f sg (lockAt st n l o kvs) = w.atSt (lockAt st n l o kvs)) : eLock fo f sg st = w.atSt st := by
  unfold eLock
  rw [e]
  dsimp only
  rw [hn]
  dsimp only
  have hx : ∃ w : Res D, ∀ o kvs, f sg (lockAt st n l o kvs) = w.atSt (lockAt st n l o kvs) := ⟨w, h⟩
  rw [dif_pos hx]
  let o : Obj := { cls := .type "dict", dict := none, data := .dict #[] 0, slots := #[] }
  have a := Classical.choose_spec hx o []
  have b := h o []
  rw [a] at b
  exact ratSt_eq b
theorem se_lock {X : Cx} {W : We} {e : Expr} {fo f : EF} (h : SE X W e f) : SE X W e (eLock fo f) :=
  pe_weak (pe_lock h) fun σ H Q ⟨m, sg, st, e, rm, rs, hp⟩ => by
    subst e
    unfold eLock at hp
    split at hp
    · rename_i n st' hf
      split at hp
      · rename_i l hl
        split at hp
        · rename_i hx
          have hn : n < st.length := (List.getElem?_eq_some_iff.mp hl).1
          have hr : n < m.r.length := by rw [rm.len]; exact hn
          have ra : m.r[n]? = some m.r[n] := List.getElem?_eq_getElem hr
          obtain ⟨kvs, k1, k2, k3⟩ := rm.obj n m.r[n] _ ra hl
          generalize m.r[n] = a at ra k1
          have am : a ∈ m.r := List.mem_of_getElem? ra
          refine ⟨a, .dK kvs, k1, trivial, fun od => ?_⟩
          have w := Classical.choose_spec hx od kvs
          have e1 : Ext m (m.put a (.frz od (.dK kvs))) := Ext.put am
          have r1 : Rel X.K X.mg (m.put a (.frz od (.dK kvs))) (lockAt st n l od kvs) := rm.put ra ⟨upd_same, k2, k3⟩
          refine ⟨m.put a (.frz od (.dK kvs)), sg, lockAt st n l od kvs, rfl, r1, rs.mono e1, ?_⟩
          rw [w]
          have ln : (lockAt st n l od kvs)[n]? = some (.lock l od kvs) := by unfold lockAt; simp [hn]
          have back : (lockAt st n l od kvs).set n (.dict l) = st := by
            unfold lockAt
            rw [List.set_set]
            have := (List.getElem?_eq_some_iff.mp hl).2
            rw [← this, List.set_getElem_self]
          generalize Classical.choose hx = c at hp
          cases c with
          | ok d s2 =>
            intro m2 v e2 r2 q2
            have ra2 : m2.r[n]? = some a := e2.at_ (e1.at_ ra)
            obtain ⟨j1, j2, j3⟩ := r2.obj n a _ ra2 ln
            have e3 : Ext m2 (m2.put a (.dK kvs)) := Ext.put (List.mem_of_getElem? ra2)
            have r3 := r2.put (so := .dict l) ra2 ⟨kvs, upd_same, j2, j3⟩
            rw [back] at r3
            exact ⟨j1, hp _ v ((e1.trans e2).trans e3) r3 (q2.mono e3)⟩
          | exc _ _ _ => exact False.elim hp
          | bad => exact False.elim hp
        · exact False.elim hp
      · exact False.elim hp
    · exact False.elim hp
end Sh
/-! Part ZD: built-in calls with keywords; min(xs, default=d). -/
namespace Sh
open PySem L2 He
def intsOfD : List D → Option (List Int)
  | [] => some []
  | .int i :: l => (intsOfD l).map (i :: ·)
  | _ => none
@[simp] theorem intsOfD_map : ∀ l : List Int, intsOfD (l.map D.int) = some l
  | [] => rfl
  | i :: l => by simp [intsOfD, intsOfD_map l]
section
variable {X : Cx} {W : We} {e : Expr} {es : List Expr} {kws : List Keyword} {g gk : AF} {x : Str} {id : String} {ks : List Str} {p pos : Pos} {r : List V → List V → Hp → VK → Prop} {sem : List D → List D → Sto → Res D}
theorem ints_rep {m : Hw} : ∀ {l : List D} {vs : List V} {ns : List Int}, Reps X.K X.mg m.r m.g l vs → intsOfD l = some ns → vs = ns.map V.int
  | [], _, ns, h, e => by cases h; cases e; rfl
  | d :: l, _, ns, h, e => by
    cases d with
    | int i =>
      cases h with
      | cons h1 h2 =>
        cases h1
        unfold intsOfD at e
        obtain ⟨ns', e1, rfl⟩ := Option.map_eq_some_iff.mp e
        rw [ints_rep h2 e1]
        rfl
    | _ => simp [intsOfD] at e
def FitsK (X : Cx) (W : We) (r : List V → List V → Hp → VK → Prop) (sem : List D → List D → Sto → Res D) : Prop :=
  ∀ (m : Hw) (st : Sto) (σ : St) (l z : List D) (vs zs : List V) (Q : VK), Rel X.K X.mg m st → Reps X.K X.mg m.r m.g l vs → Reps X.K X.mg m.r m.g z zs → Post X.K X.mg W.w m σ (RD X.K X.mg) Q (sem l z st) → r vs zs m.h Q
theorem se_callBK (hc : CallRK X (.builtin id) ks r) (hf : FitsK X W r sem) (hg : Gl X x) (hm : X.mg x = none) (hv : bootBuiltins x = some (.builtin id)) (ha : SA X W (e :: es) g) (hk : SK X W kws gk) (hn : x ≠ "__name__" := by decide) (hdb : (x == ("__debug__" : Str)) = false := by decide)
    (he : backTo pos (starEach (e :: es) X.env) = (false, eval e X.env) :: backTo pos (starEach es X.env) := by rfl) (hpl : (backTo pos (starEach (e :: es) X.env)).any (·.1) = false := by rfl)
    (hall : (backToKw pos (keywordEach kws X.env)).all (·.1.isSome) = true := by rfl) (hnone : (backToKw pos (keywordEach kws X.env)).any (·.1.isNone) = false := by rfl) (hks : (backToKw pos (keywordEach kws X.env)).filterMap (·.1) = ks := by rfl) :
    SE X W (.Call (.Name x p) (e :: es) kws pos) (fCallK sem g gk) :=
  pe_weak (pe_callBK hc hg hm hv ha hk hn hdb he hpl hall hnone hks) fun σ H Q ⟨m, sg, st, em, rm, rs, hp⟩ => ⟨m, sg, st, em, rm, rs, hp.bindc fun m1 l vs st1 e1 r1 q1 hp1 => ⟨m1, sg, st1, rfl, r1, rs.mono e1, Post.bindc (x := gk sg st1) hp1 fun m2 z zs st2 e2 r2 q2 hp2 => hf m2 st2 σ l z vs zs Q r2 (q1.mono e2) q2 hp2⟩⟩
def bMinD (l z : List D) (st : Sto) : Res D := match l, z with
  | [x], [d] => match (lstOf x st).bind intsOfD with
    | some [] => .ok d st
    | some (y :: ys) => .ok (.int (PySem.W.minOf y ys)) st
    | none => .bad
  | _, _ => .bad
abbrev rMinDef (K : PySem.W.Frag) : List V → List V → Hp → VK → Prop := fun vs zs H Q => ∃ a ns d, vs = [V.ref a] ∧ zs = [d] ∧ SqL K H a (ns.map V.int) ∧ (ns = [] → Q d H) ∧ ∀ (y : Int) (ys : List Int), ns = y :: ys → Q (.int (PySem.W.minOf y ys)) H
theorem cr_minDef (hc : X.calm = true) (hu : X.A.units + 1 < cLine) : CallRK X (.builtin "min") ["default"] (rMinDef X.K) := by
  intro pins s σ H vs zs us ws Q I r rz h
  obtain ⟨a, ns, d, rfl, rfl, hs, q0, q1⟩ := h
  obtain ⟨its, rv, hl, _⟩ := I.list hs
  rw [Vals.ref1 r]
  cases rz with
  | cons rd rn =>
    cases rn
    refine PySem.W.min_list_datum_default (α := Int) (xs := ns) (I.ok.hd hc) hl.isList (PySem.W.HoldAll.of_ints (by simpa using rv.ints)) hu (fun e h' tk hk => ⟨d, H, I.kept hk, rd, q0 e⟩) fun y ys i v h' tk e hv hh hk => ?_
    obtain ⟨t, rfl⟩ := PySem.W.int_of_holds hh
    exact ⟨.int _, H, I.kept hk, ⟨t, rfl⟩, q1 y ys e⟩
theorem fits_minD : FitsK X W (rMinDef X.K) bMinD := by
  intro m st σ l z vs zs Q rm ql qz hp
  unfold bMinD at hp
  split at hp
  · rename_i x d
    obtain ⟨v, rfl, hv⟩ := reps1 ql
    obtain ⟨w, rfl, hw⟩ := reps1 qz
    split at hp
    · rename_i h
      obtain ⟨l, h1, h2⟩ := Option.bind_eq_some_iff.mp h
      obtain ⟨a, ws, rfl, k1, k2⟩ := lst_of rm hv h1
      rw [ints_rep k2 h2] at k1
      exact ⟨a, [], w, rfl, rfl, k1, fun _ => hp.okc rm hw, fun y ys e => by cases e⟩
    · rename_i y ys h
      obtain ⟨l, h1, h2⟩ := Option.bind_eq_some_iff.mp h
      obtain ⟨a, ws, rfl, k1, k2⟩ := lst_of rm hv h1
      rw [ints_rep k2 h2] at k1
      refine ⟨a, y :: ys, w, rfl, rfl, k1, ?_, ?_⟩
      · intro e
        cases e
      · intro y' ys' e
        cases e
        exact hp.okc rm (.int _)
    · exact False.elim hp
  · exact False.elim hp
end
end Sh
/-! Part ZE: a comprehension over a dict that is locked behind its making, and unlocked at the end (ghost steps). -/
namespace Sh
open PySem L2 He
section
variable {X : Cx} {e : Expr} {t : TE}
def lkTE (X : Cx) (t : TE) : TE := fun σ H Q => t σ H fun x H1 => ∃ d u, x = .ref d ∧ H1 d = some u ∧ Mut (some u) ∧ ∀ od, (∀ o' u', X.H_0 d ≠ some (.frz o' u')) → Q x (upd H1 d (.frz od u))
/-- behind e: its dict is locked -/
theorem pe_lockAt (h : PE X e t) : PE X e (lkTE X t) := by
  refine ⟨fun pins s σ H Q I hw => thn (h.run pins s σ H _ I hw) fun v s1 ⟨x, H1, I1, r, d, u, ex, hd, mu, q⟩ => ?_⟩
  obtain ⟨od, I2⟩ := I1.lock hd mu
  exact ⟨x, _, I2, r, q od (I1.nofrz hd mu)⟩
def ulTE (X : Cx) (t : TE) : TE := fun σ H Q => t σ H fun x H1 => ∃ d od u, H1 d = some (.frz od u) ∧ (∀ o' u', X.H_0 d ≠ some (.frz o' u')) ∧ Q x (upd H1 d u)
/-- at the end of e: it is unlocked -/
theorem pe_unlockAt (h : PE X e t) : PE X e (ulTE X t) := by
  refine ⟨fun pins s σ H Q I hw => thn (h.run pins s σ H _ I hw) fun v s1 ⟨x, H1, I1, r, d, od, u, hd, hn, q⟩ => ?_⟩
  exact ⟨x, _, I1.unlock hd hn, r, q⟩
end
theorem items_it {K : PySem.W.Frag} {mg : Str → Option Value} {m1 : Hw} {n : Nat} {a : Addr} {l : List (Key × D)} {o : Obj} {kvs : List (Key × V)} (hr : m1.r[n]? = some a) : ItOk K mg m1 (Iti a o kvs) (l.map fun kv => .tup [kyD kv.1, kv.2]) (fun st => st[n]? = some (.lock l o kvs)) := fun m2 st2 e2 r2 c2 i => by
  obtain ⟨j1, j2, j3⟩ := r2.obj _ _ _ (e2.at_ hr) c2
  have hlen : kvs.length = l.length := by have := congrArg List.length j2; simpa using this
  refine ⟨fun hi => ⟨j1, by rw [hlen]; simpa using hi⟩, fun d hd => ?_⟩
  rw [List.getElem?_map] at hd
  obtain ⟨⟨k, dd⟩, hkd, rfl⟩ := Option.map_eq_some_iff.mp hd
  obtain ⟨v, a1, a2⟩ := kv_at j2 j3 hkd
  refine ⟨⟨j1, (List.getElem?_eq_some_iff.mp a1).1⟩, fun y H' ⟨T, k', v', b1, b2, b3, b4⟩ => ?_⟩
  rw [a1] at b1
  cases b1
  subst b2
  rw [b4]
  exact pair_ok r2 b3 (kyD_rep k) a2
theorem vals_it {K : PySem.W.Frag} {mg : Str → Option Value} {m1 : Hw} {n : Nat} {a : Addr} {l : List (Key × D)} {o : Obj} {kvs : List (Key × V)} (hr : m1.r[n]? = some a) : ItOk K mg m1 (Itd a o kvs) (l.map (·.2)) (fun st => st[n]? = some (.lock l o kvs)) := fun m2 st2 e2 r2 c2 i => by
  obtain ⟨j1, j2, j3⟩ := r2.obj _ _ _ (e2.at_ hr) c2
  have hlen : kvs.length = l.length := by have := congrArg List.length j2; simpa using this
  refine ⟨fun hi => ⟨j1, by rw [hlen]; simpa using hi⟩, fun d hd => ?_⟩
  rw [List.getElem?_map] at hd
  obtain ⟨⟨k, dd⟩, hkd, rfl⟩ := Option.map_eq_some_iff.mp hd
  obtain ⟨v, a1, a2⟩ := kv_at j2 j3 hkd
  refine ⟨⟨j1, (List.getElem?_eq_some_iff.mp a1).1⟩, fun y H' ⟨b1, k', b2⟩ => ?_⟩
  rw [a1] at b2
  cases b2
  exact ⟨m2, b1.symm, Ext.refl _, r2, a2⟩
theorem keys_it {K : PySem.W.Frag} {mg : Str → Option Value} {m1 : Hw} {n : Nat} {a : Addr} {l : List (Key × D)} {o : Obj} {kvs : List (Key × V)} (hr : m1.r[n]? = some a) : ItOk K mg m1 (Itk a o kvs) (l.map fun kv => kyD kv.1) (fun st => st[n]? = some (.lock l o kvs)) := fun m2 st2 e2 r2 c2 i => by
  obtain ⟨j1, j2, j3⟩ := r2.obj _ _ _ (e2.at_ hr) c2
  have hlen : kvs.length = l.length := by have := congrArg List.length j2; simpa using this
  refine ⟨fun hi => ⟨j1, by rw [hlen]; simpa using hi⟩, fun d hd => ?_⟩
  rw [List.getElem?_map] at hd
  obtain ⟨⟨k, dd⟩, hkd, rfl⟩ := Option.map_eq_some_iff.mp hd
  obtain ⟨v, a1, a2⟩ := kv_at j2 j3 hkd
  refine ⟨⟨j1, (List.getElem?_eq_some_iff.mp a1).1⟩, fun y H' ⟨b1, k', v', b2, b3⟩ => ?_⟩
  rw [a1] at b2
  cases b2
  rw [b3]
  exact ⟨m2, b1.symm, Ext.refl _, r2, kyD_rep k⟩
/-- what a walk of a dict yields -/
inductive Wy where
  | items | vals | keys
def Wy.sel : Wy → List (Key × D) → List D
  | .items, l => l.map fun kv => .tup [kyD kv.1, kv.2]
  | .vals, l => l.map (·.2)
  | .keys, l => l.map fun kv => kyD kv.1
@[simp] theorem sel_items (l : List (Key × D)) : Wy.items.sel l = l.map fun kv => .tup [kyD kv.1, kv.2] := rfl
@[simp] theorem sel_vals (l : List (Key × D)) : Wy.vals.sel l = l.map (·.2) := rfl
@[simp] theorem sel_keys (l : List (Key × D)) : Wy.keys.sel l = l.map fun kv => kyD kv.1 := rfl
def lkck (n : Nat) (l : List (Key × D)) (o : Obj) (kvs : List (Key × V)) : Sto → Prop := fun st => st[n]? = some (.lock l o kvs)
open Classical in
noncomputable def lcLk (ws : List Nat) (fo : EF) (y : Wy) (t : Tg) (c : TF) (f : EF) : Sg → Sto → Res (List D) := fun sg st => (fo sg st).bind fun x st1 => match x with
  | .loc n => match st1[n]? with
    | some (.dict l) => if h : (y.sel l).length ≤ 16777216 ∧ ∃ ys, ∀ o kvs, lcF (lkck n l o kvs) t c f (wipeD sg ws) (y.sel l) (lockAt st1 n l o kvs) = .ok ys (lockAt st1 n l o kvs) then .ok (Classical.choose h.2) st1 else .bad
    | _ => .bad
  | _ => .bad
@[simp] noncomputable def fLcK (ws : List Nat) (fo : EF) (y : Wy) (t : Tg) (c : TF) (f : EF) : EF := fun sg st => (lcLk ws fo y t c f sg st).bind fun l st1 => .ok (.lst l) st1
@[simp] noncomputable def fLcKN (ws : List Nat) (fo : EF) (y : Wy) (t : Tg) (c : TF) (f : EF) : EF := fun sg st => (lcLk ws fo y t c f sg st).bind fun l st1 => .ok (.loc st1.length) (st1 ++ [.lst l])
theorem lcLk_eq {ws : List Nat} {fo : EF} {y : Wy} {t : Tg} {c : TF} {f : EF} {sg : Sg} {st st1 : Sto} {n : Nat} {l : List (Key × D)} {ys : List D} (e : fo sg st = .ok (.loc n) st1) (hn : st1[n]? = some (.dict l)) (hl : (y.sel l).length ≤ 16777216)
    (h : ∀ o kvs, lcF (lkck n l o kvs) t c f (wipeD sg ws) (y.sel l) (lockAt st1 n l o kvs) = .ok ys (lockAt st1 n l o kvs)) : lcLk ws fo y t c f sg st = .ok ys st1 := by
  unfold lcLk
  rw [e]
  dsimp only [Res.bind]
  rw [hn]
  dsimp only
  have hx : (y.sel l).length ≤ 16777216 ∧ ∃ ys, ∀ o kvs, lcF (lkck n l o kvs) t c f (wipeD sg ws) (y.sel l) (lockAt st1 n l o kvs) = .ok ys (lockAt st1 n l o kvs) := ⟨hl, ys, h⟩
  rw [dif_pos hx]
  let o : Obj := { cls := .type "dict", dict := none, data := .dict #[] 0, slots := #[] }
  have a := Classical.choose_spec hx.2 o []
  rw [h o []] at a
  cases a
  congr 1
section
variable {X : Cx} {W : We} {t : Tg} {ct : TF} {fe f : EF} {ifs : List Expr} {scope : Scope} {own : List (Str × Nat)} {elt tg iter e : Expr} {pos apos cpos : Pos}
def Wy.ti (y : Wy) (t : TE) : TI := match y with
  | .items => iItems t
  | .vals => iVals t
  | .keys => iKeys t
def Wy.it (y : Wy) (a : Addr) (o : Obj) (kvs : List (Key × V)) : It := match y with
  | .items => Iti a o kvs
  | .vals => Itd a o kvs
  | .keys => Itk a o kvs
theorem Wy.ok {K : PySem.W.Frag} {mg : Str → Option Value} {m1 : Hw} {n : Nat} {a : Addr} {l : List (Key × D)} {o : Obj} {kvs : List (Key × V)} (y : Wy) (hr : m1.r[n]? = some a) : ItOk K mg m1 (y.it a o kvs) (y.sel l) (lkck n l o kvs) := by
  cases y with
  | items => exact items_it hr
  | vals => exact vals_it hr
  | keys => exact keys_it hr
theorem Wy.ti_of (y : Wy) {t : TE} {σ : St} {H : Hp} {R : It → Hp → Prop} (h : t σ H fun x H1 => ∃ d o kvs, x = .ref d ∧ H1 d = some (.frz o (.dK kvs)) ∧ R (y.it d o kvs) H1) (mono : ∀ σ H (Q Q' : VK), (∀ x H, Q x H → Q' x H) → t σ H Q → t σ H Q') : y.ti t σ H R := by
  cases y with
  | items => exact h
  | vals => exact h
  | keys => exact mono _ _ _ _ (fun x H ⟨d, o, kvs, a, b, c⟩ => ⟨d, o, a, .inl ⟨kvs, b, c⟩⟩) h
theorem Post.monoQ {α β : Type} {K : PySem.W.Frag} {mg : Str → Option Value} {w : WX} {m : Hw} {σ : St} {R : Hw → α → β → Prop} {Q Q' : β → Hp → Prop} {r : Res α} (h : Post K mg w m σ R Q r) (i : ∀ x H, Q x H → Q' x H) : Post K mg w m σ R Q' r := by
  cases r with
  | ok a st => exact fun m1 v e r q => i _ _ (h m1 v e r q)
  | exc c o st => exact h
  | bad => exact h
theorem tof_mono {K : PySem.W.Frag} {mg : Str → Option Value} {W : We} {f : EF} {σ : St} {H : Hp} {Q Q' : VK} (i : ∀ x H, Q x H → Q' x H) (h : TOf K mg W (RD K mg) f σ H Q) : TOf K mg W (RD K mg) f σ H Q' := by
  obtain ⟨m, sg, st, e, rm, rs, hp⟩ := h
  exact ⟨m, sg, st, e, rm, rs, hp.monoQ i⟩
theorem lk_mono {f : EF} : ∀ σ H (Q Q' : VK), (∀ x H, Q x H → Q' x H) → lkTE X (TOf X.K X.mg W (RD X.K X.mg) f) σ H Q → lkTE X (TOf X.K X.mg W (RD X.K X.mg) f) σ H Q' := fun σ H Q Q' i h => tof_mono (fun x H ⟨d, u, a, b, c, k⟩ => ⟨d, u, a, b, c, fun od z => i _ _ (k od z)⟩) h
theorem tLcK_of {σ : St} {Q : VK} {m : Hw} {sg : Sg} {st : Sto} {ws : List Nat} {y : Wy} {k : List D → Sto → Res D} (hw : ∀ i ∈ tgSl t, i ∈ ws) (hne : ∀ z, W.e = some z → z.i ∉ ws) (rm : Rel X.K X.mg m st) (rs : SgRep X.K X.mg W.e m sg σ) (hp : Post X.K X.mg W.w m σ (RD X.K X.mg) Q ((lcLk ws f y t ct fe sg st).bind k))
    (fin : ∀ m1 l st1 Dl m2 vs, Ext m m1 → m1.h Dl = none → Ext m1 m2 → m2.h Dl = some (.lst vs) → Dl ∉ m2.r → m2.g Dl = none → Rel X.K X.mg m2 st1 → Reps X.K X.mg m2.r m2.g l vs → Post X.K X.mg W.w m1 σ (RD X.K X.mg) Q (k l st1) → Q (.ref Dl) m2.h) :
    ulTE X (tLc (y.ti (lkTE X (TOf X.K X.mg W (RD X.K X.mg) f))) (gTg X.K t) (TOf X.K X.mg (WF W) RB ct) (TOf X.K X.mg (WF W) (RD X.K X.mg) fe) ws) σ m.h Q := by
  unfold lcLk at hp
  rw [bind_assoc'] at hp
  refine y.ti_of ?_ lk_mono
  refine ⟨m, sg, st, rfl, rm, rs, hp.bindc fun m1 x v st1 e1 r1 q1 hp1 => ?_⟩
  split at hp1
  · rename_i n
    split at hp1
    · rename_i l hl
      split at hp1
      · rename_i hx
        cases q1 with
        | loc ra =>
          rename_i a
          obtain ⟨kvs, k1, k2, k3⟩ := r1.obj _ _ _ ra hl
          refine ⟨a, .dK kvs, rfl, k1, trivial, fun od hnf => ⟨a, od, kvs, rfl, upd_same, fun Dl hD => ?_⟩⟩
          have hn : n < st1.length := (List.getElem?_eq_some_iff.mp hl).1
          have am : a ∈ m1.r := List.mem_of_getElem? ra
          have e2 : Ext m1 (m1.put a (.frz od (.dK kvs))) := Ext.put am
          have r2 : Rel X.K X.mg (m1.put a (.frz od (.dK kvs))) (lockAt st1 n l od kvs) := r1.put ra ⟨upd_same, k2, k3⟩
          have ln : (lockAt st1 n l od kvs)[n]? = some (.lock l od kvs) := by unfold lockAt; simp [hn]
          have back : (lockAt st1 n l od kvs).set n (.dict l) = st1 := by
            unfold lockAt
            rw [List.set_set]
            have := (List.getElem?_eq_some_iff.mp hl).2
            rw [← this, List.set_getElem_self]
          have hs := Classical.choose_spec hx.2 od kvs
          generalize Classical.choose hx.2 = ys at hs hp1
          have hda : Dl ≠ a := fun z => by
            subst z
            have : upd m1.h Dl (.frz od (.dK kvs)) Dl = none := hD
            rw [upd_same] at this
            cases this
          have hD1 : m1.h Dl = none := by
            have : upd m1.h a (.frz od (.dK kvs)) Dl = none := hD
            rwa [upd_ne hda] at this
          refine lc_ok (w := ⟨y.sel l, lkck n l od kvs⟩) (Qd := fun x H1 => ∃ d od u, H1 d = some (.frz od u) ∧ (∀ o' u', X.H_0 d ≠ some (.frz o' u')) ∧ Q x (upd H1 d u)) hw hx.1 (y.ok (e2.at_ ra)) r2 (rs.mono (e1.trans e2)) hne (fun l' st' => l' = ys ∧ st' = lockAt st1 n l od kvs) Dl hD ⟨ys, _, hs, rfl, rfl⟩ fun m3 l' vs st' e3 h1 h2 h3 r3 q3 hR => ?_
          obtain ⟨rfl, rfl⟩ := hR
          have ra3 : m3.r[n]? = some a := e3.at_ (e2.at_ ra)
          obtain ⟨j1, j2, j3⟩ := r3.obj n a _ ra3 ln
          have e4 : Ext m3 (m3.put a (.dK kvs)) := Ext.put (List.mem_of_getElem? ra3)
          have r4 : Rel X.K X.mg (m3.put a (.dK kvs)) st1 := by
            have := r3.put (so := .dict l) ra3 ⟨kvs, upd_same, j2, j3⟩
            rwa [back] at this
          refine ⟨a, od, .dK kvs, j1, hnf, ?_⟩
          refine fin m1 l' st1 Dl (m3.put a (.dK kvs)) vs e1 hD1 ((e2.trans e3).trans e4) ?_ h2 h3 r4 (q3.mono e4) hp1
          show upd m3.h a (.dK kvs) Dl = _
          rw [upd_ne hda]
          exact h1
      · exact False.elim hp1
    · exact False.elim hp1
  · exact False.elim hp1
section
variable {y : Wy} (hc : X.calm = true) (hN : X.N.Nodup) (hi : PI X tg iter (y.ti (lkTE X (TOf X.K X.mg W (RD X.K X.mg) f)))) (ok : BlkOk X.N X.env.scope scope own) (hw : ∀ i ∈ tgSl t, i ∈ own.map (·.2))
  (hg : ∀ (s : Shared) (H : Hp) (C : Addr) (cl : List (Str × Addr)) (fp : List Addr), PG (X.blk s H scope (compEnvC scope cl C X.env) fp) tg (gTg X.K t)) (ht : ∀ (s : Shared) (H : Hp) (C : Addr) (cl : List (Str × Addr)) (fp : List Addr), STs (X.blk s H scope (compEnvC scope cl C X.env) fp) (WF W) ifs ct)
  (he : ∀ (s : Shared) (H : Hp) (C : Addr) (cl : List (Str × Addr)) (fp : List Addr), SE (X.blk s H scope (compEnvC scope cl C X.env) fp) (WF W) elt fe) (hfs : ∀ x, foldedSetIterable iter X.env x = pure x)
include hc hN hi ok hw hg ht he hfs
theorem se_lcK (hne : ∀ z, W.e = some z → z.i ∉ own.map (·.2) := by first | (intro _ h; cases h; done) | (intro _ h; cases h; decide)) : SE X W (.ListComp elt [⟨tg, iter, ifs, 0⟩] scope pos) (fLcK (own.map (·.2)) f y t ct fe) :=
  pe_weak (pe_unlockAt (pe_lc (tt := TOf X.K X.mg (WF W) RB ct) (te := TOf X.K X.mg (WF W) (RD X.K X.mg) fe) hc hN hi ok hg ht he hfs)) fun σ H Q ⟨m, sg, st, e, rm, rs, hp⟩ => by
    subst e
    exact tLcK_of hw hne rm rs hp fun m1 l st1 Dl m2 vs e1 hD e2 h1 h2 h3 r2 q2 hp1 => lc_val hD e2 h1 h2 r2 q2 hp1
theorem se_lcKN (hne : ∀ z, W.e = some z → z.i ∉ own.map (·.2) := by first | (intro _ h; cases h; done) | (intro _ h; cases h; decide)) : SE X W (.ListComp elt [⟨tg, iter, ifs, 0⟩] scope pos) (fLcKN (own.map (·.2)) f y t ct fe) :=
  pe_weak (pe_unlockAt (pe_lc (tt := TOf X.K X.mg (WF W) RB ct) (te := TOf X.K X.mg (WF W) (RD X.K X.mg) fe) hc hN hi ok hg ht he hfs)) fun σ H Q ⟨m, sg, st, e, rm, rs, hp⟩ => by
    subst e
    exact tLcK_of hw hne rm rs hp fun m1 l st1 Dl m2 vs e1 hD e2 h1 h2 h3 r2 q2 hp1 => lc_new hD e2 h1 h2 h3 r2 q2 hp1
end
theorem ki_items {elts : List Expr} {kk : Nat} {tpos : Pos} (he : SE X W e f) (hb : attributeBase e "items" X.env (eval e X.env) = eval e X.env := by rfl) (hl : (apos.endLine == cpos.line) = true := by rfl) : PI X (.Tuple elts kk tpos) (.Call (.Attribute e "items" apos) [] [] cpos) (Wy.items.ti (lkTE X (TOf X.K X.mg W (RD X.K X.mg) f))) := pi_items (pe_lockAt he) hb hl
theorem ki_vals (he : SE X W e f) (hb : attributeBase e "values" X.env (eval e X.env) = eval e X.env := by rfl) (hl : (apos.endLine == cpos.line) = true := by rfl) : PI X tg (.Call (.Attribute e "values" apos) [] [] cpos) (Wy.vals.ti (lkTE X (TOf X.K X.mg W (RD X.K X.mg) f))) := pi_values (pe_lockAt he) hb hl
theorem ki_keys (he : SE X W e f) : PI X tg e (Wy.keys.ti (lkTE X (TOf X.K X.mg W (RD X.K X.mg) f))) := pi_keys (pe_lockAt he)
end
end Sh
/-! Part ZF: sorted of data (ints, texts, tuples of such): of a list, of a tuple. -/
namespace Sh
open PySem L2 He
section
open PySem.W PySem.Calls PyProof.Rows
variable {prog : Program} {w : World} {A : Around} {E : Value → Shared → Prop} {s : Shared} {β : Type} {enc : β → PyData}
/-- sorted(r): what collect gives of r, sorted in a new list -/
theorem sorted_col {r : Value} {P : List Value → Shared → Prop} {Q : Value → Shared → Prop} (ha1 : argsOk "sorted" ⟨[r], []⟩)
    (hcol : ∀ (E' : Value → Shared → Prop) (Q' : List Value → Shared → Prop), (∀ vs s1, P vs s1 → Q' vs s1) → wpAny (model prog w) A.in1 (collect r) Q' E' s)
    (body : ∀ vs s1, P vs s1 → ∃ (R : Value → β → Prop) (bs : List β), EachIs R vs bs ∧ EachIs (fun v b => ∃ as, Reads s1.heap v (enc b) as) vs bs ∧ AllAlike (bs.map enc) ∧ Sortable (bs.map enc) ∧ bs.length ≤ sizeLine ∧ (∀ b, b ∈ bs → A.units + 2 + (enc b).depth < cLine) ∧
      ∀ h' out ep, (∀ b o, s1.heap.get? b = some o → h'.get? b = some o) → h'.get? s1.heap.objs.size = some (seqObj "list" (List.toArray out) ep) → EachIs R out (bs.mergeSort (dataLe false enc)) → Q (.ref s1.heap.objs.size) { s1 with heap := h' }) :
    wpAny (model prog w) A (call (.builtin "sorted") [r] []) Q E s := by
  refine call_function_entry_kw kind_sorted plain_sorted entry_sorted ha1 ?_
  unfold Builtin.«sorted»
  refine wpAny_bind (m := checkCount "sorted" 1 1 _) (wpAny_pure ?_)
  refine wpAny_bind (hcol _ _ fun vs s1 hP => ?_)
  obtain ⟨R, bs, e, er, hal, hk, hL, hu, fin⟩ := body vs s1 hP
  have hlv : vs.length ≤ sizeLine := by rw [e.length]; exact hL
  refine wpAny_bind (wpAny_newList ?_ hlv)
  show wpAny _ _ _ _ _ { s1 with heap := s1.heap.push (seqObj "list" vs.toArray 0) }
  have ho : (s1.heap.push (seqObj "list" vs.toArray 0)).get? s1.heap.objs.size = some (seqObj "list" vs.toArray 0) := Heap.get?_push_size _ rfl
  have old : ∀ b o, s1.heap.get? b = some o → (sortingHeap (s1.heap.push (seqObj "list" vs.toArray 0)) s1.heap.objs.size vs).get? b = some o := fun b o q => sortingHeap_old (Nat.ne_of_lt (Heap.lt_size q)) (Heap.get?_push_of_some _ q)
  have er' : EachIs (fun v b => ∃ as, Reads (sortingHeap (s1.heap.push (seqObj "list" vs.toArray 0)) s1.heap.objs.size vs) v (enc b) as) vs bs := er.mono fun _ _ ⟨as, q⟩ => ⟨as, PyProof.Rows.Reads.keeps (fun _ _ => old _ _) q⟩
  refine wpAny_bind (wpAny_holding (wpAny_call_entry_kw slot_list_sort ⟨_, ho, rfl⟩ entry_list_sort ?body (args_list_sort _)))
  case body =>
    show wpAny (model prog w) A.in1.in1 (Builtin.«list.sort» ⟨[.ref s1.heap.objs.size], []⟩) _ _ _
    refine list_sort_vals (s := { s1 with heap := s1.heap.push (seqObj "list" vs.toArray 0) }) ho (SortsAt.data (A := A.in1.in1) (s := { s1 with heap := sortingHeap (s1.heap.push (seqObj "list" vs.toArray 0)) s1.heap.objs.size vs }) (each_map (R := fun v d => ∃ as, Reads (sortingHeap (s1.heap.push (seqObj "list" vs.toArray 0)) s1.heap.objs.size vs) v d as) enc er') hal hk (bound_map (A := A.in1.in1) hu)) hlv ?_
    have hat := fun out => sortedHeap_at (out := out) ho
    refine ⟨_, rfl, wpAny_pure ⟨_, rfl, fin _ _ _ (fun b o q => ?_) (Classical.choose_spec (hat _)) (sortVals_data false e er' hal)⟩⟩
    rw [sortedHeap_old (Nat.ne_of_lt (Heap.lt_size q)) (by rw [Heap.size_push]; exact Nat.lt_succ_of_lt (Heap.lt_size q))]
    exact Heap.get?_push_of_some _ q
end
/-! at the level of D -/
def pyD (x : D) : PyData := (toPy x).getD .none
def pysD : List D → Option (List PyData) := toPys
def srtOk (l : List D) : Prop := (∃ ds, toPys l = some ds) ∧ PySem.W.AllAlike (l.map pyD) ∧ PySem.W.Sortable (l.map pyD) ∧ (∀ x ∈ l, (pyD x).depth ≤ 8) ∧ l.length ≤ 16777216
noncomputable def srtD (l : List D) : List D := l.mergeSort (PySem.W.dataLe false pyD)
open Classical in
noncomputable def bSorted : List D → Sto → Res D := fun l st => match l with
  | [x] => match itemsOf x st with
    | some l => if srtOk l then .ok (.lst (srtD l)) st else .bad
    | none => .bad
  | _ => .bad
open Classical in
noncomputable def bSortedN : List D → Sto → Res D := fun l st => match l with
  | [x] => match itemsOf x st with
    | some l => if srtOk l then .ok (.loc st.length) (st ++ [.lst (srtD l)]) else .bad
    | none => .bad
  | _ => .bad
theorem toPys_map : ∀ {l : List D} {ds : List PyData}, toPys l = some ds → l.map pyD = ds ∧ ∀ x ∈ l, toPy x = some (pyD x)
  | [], ds, e => by cases (Option.some.inj (by simpa [toPys] using e) : [] = ds); exact ⟨rfl, fun _ h => absurd h (by simp)⟩
  | x :: l, ds, e => by
    obtain ⟨d, r, rfl, h1, h2⟩ := toPys_cons e
    obtain ⟨a, b⟩ := toPys_map h2
    have hx : pyD x = d := by unfold pyD; rw [h1]; rfl
    refine ⟨by rw [List.map_cons, a, hx], fun y hy => ?_⟩
    rcases List.mem_cons.mp hy with rfl | hy
    · rw [hx]; exact h1
    · exact b y hy
section
variable {X : Cx} {W : We}
/-- the items of a sequence, as they stand for D -/
theorem each_of {K : PySem.W.Frag} {mg : Str → Option Value} {r : List Addr} {G : Hp} : ∀ {l : List D} {vs : List V} {us : List Value}, Reps K mg r G l vs → Vals vs us → PySem.W.EachIs (fun (u : Value) (d : D) => ∃ v, RelV v u ∧ Rep K mg r G d v) us l
  | [], _, _, .nil, .nil => .nil
  | _ :: _, _, _, .cons h t, .cons rv rt => .cons ⟨_, rv, h⟩ (each_of t rt)
theorem each_back {K : PySem.W.Frag} {mg : Str → Option Value} {r : List Addr} {G : Hp} : ∀ {l : List D} {us : List Value}, PySem.W.EachIs (fun (u : Value) (d : D) => ∃ v, RelV v u ∧ Rep K mg r G d v) us l → ∃ vs, Reps K mg r G l vs ∧ Vals vs us
  | [], _, .nil => ⟨[], .nil, .nil⟩
  | _ :: _, _, .cons ⟨v, h1, h2⟩ t => let ⟨vs, a, b⟩ := each_back t; ⟨v :: vs, .cons h2 a, .cons h1 b⟩
theorem each_reads {pins : List (Addr × Obj)} {s : Shared} {σ : St} {m : Hw} {st : Sto} (I : Inv X pins σ m.h s) (rm : Rel X.K X.mg m st) : ∀ {l : List D} {vs : List V} {us : List Value}, Reps X.K X.mg m.r m.g l vs → Vals vs us → (∀ x ∈ l, toPy x = some (pyD x)) → PySem.W.EachIs (fun (u : Value) (d : D) => ∃ as, PySem.Reads s.heap u (pyD d) as) us l
  | [], _, _, .nil, .nil, _ => .nil
  | x :: l, _, _, .cons h t, .cons rv rt, hx => .cons (Dp.reads I _ _ _ (dp_of rm.sub x _ _ h (hx x List.mem_cons_self)) rv) (each_reads I rm t rt fun y hy => hx y (List.mem_cons_of_mem _ hy))
theorem srt_length (l : List D) : (srtD l).length = l.length := by unfold srtD; simp
/-- the sorted list is laid -/
theorem sorted_run {pins : List (Addr × Obj)} {s : Shared} {σ : St} {m : Hw} {st : Sto} {l : List D} {vs : List V} {a : Addr} {Q : VK} (hu : X.A.units + 64 < cLine) (I : Inv X pins σ m.h s) (rm : Rel X.K X.mg m st) (hl : SqL X.K m.h a vs ∨ SqT X.K m.h a vs) (q : Reps X.K X.mg m.r m.g l vs) (ho : srtOk l)
    (fin : ∀ p vs', m.h p = none → Reps X.K X.mg m.r m.g (srtD l) vs' → Q (.ref p) (upd m.h p (.lst vs'))) : wpAny (model X.prog X.w) X.A (call (.builtin "sorted") [.ref a]) (EP X pins σ Q) X.xe s := by
  obtain ⟨⟨ds, h1⟩, h2, h3, h4, h5⟩ := ho
  obtain ⟨_, hpy⟩ := toPys_map h1
  have col : ∃ its : List Value, Vals vs its ∧ vs.length ≤ sizeLine ∧ ∃ o T n, (T = "list" ∨ T = "tuple") ∧ s.heap.get? a = some o ∧ o.cls = .type T ∧ o.data = .seq its.toArray n := by
    rcases hl with hl | hl
    · obtain ⟨its, rv, ⟨o, n, e1, e2, _, e3⟩, hz⟩ := I.list hl
      exact ⟨its, rv, hz, o, "list", n, .inl rfl, e1, e2, e3⟩
    · obtain ⟨its, rv, ⟨o, e1, e2, n, e3⟩, hz⟩ := I.tuple hl
      exact ⟨its, rv, hz, o, "tuple", n, .inr rfl, e1, e2, e3⟩
  obtain ⟨its, rv, hz, o, T, n, hT, e1, e2, e3⟩ := col
  have hzi : its.length ≤ sizeLine := by rw [← rv.length]; exact hz
  refine sorted_col (β := D) (enc := pyD) (P := fun us s1 => us = its ∧ ∃ h', s1 = { s with heap := h' } ∧ ∀ b o, s.heap.get? b = some o → h'.get? b = some o) (PyProof.Rows.args_sorted1 _) (fun E' Q' hq => ?_) fun us s1 hP => ?_
  · exact wpAny_collect_seq (hsz := by simpa using hzi) a hT e1 e2 e3 fun h' hk => hq _ _ ⟨by simp, h', rfl, hk⟩
  · obtain ⟨rfl, h', rfl, hk⟩ := hP
    have I1 : Inv X pins σ m.h { s with heap := h' } := I.kept (t' := s.toks) hk
    refine ⟨fun (u : Value) (d : D) => ∃ v, RelV v u ∧ Rep X.K X.mg m.r m.g d v, l, each_of q rv, each_reads I1 rm q rv hpy, h2, h3, by rw [sizeLine_eq]; omega, fun x hx => by have := h4 x hx; omega, fun h2 out ep k2 hat hE => ?_⟩
    obtain ⟨vs', q', rv'⟩ := each_back hE
    have hlen : vs'.length ≤ sizeLine := by
      rw [← q'.length]
      show (srtD l).length ≤ _
      rw [srt_length, sizeLine_eq]; omega
    exact ⟨.ref h'.objs.size, upd m.h h'.objs.size (.lst vs'), I1.laid (t' := s.toks) k2 (Nat.le_refl _) ⟨hlen, out, ep, rv', hat⟩, rfl, fin _ vs' (I1.hok.fresh (Nat.le_refl _)) q'⟩
theorem cal_sorted (hu : X.A.units + 64 < cLine) : CalS X W (.builtin "sorted") bSorted := by
  intro pins s σ m st l vs us Q I rv rm ra hp
  unfold bSorted at hp
  split at hp
  · obtain ⟨v, rfl, hv⟩ := reps1 ra
    split at hp
    · rename_i l h
      split at hp
      · rename_i ho
        obtain ⟨q, ws, rfl, k1, k2⟩ := items_of rm hv h
        rw [Vals.ref1 rv]
        exact sorted_run hu I rm k1 k2 ho fun p vs' hn q' => hp.lay (α := D) rm (fun p hn => .lst upd_same (q'.mono (Ext.lay rm hn))) p hn
      · exact False.elim hp
    · exact False.elim hp
  · exact False.elim hp
theorem cal_sortedN (hu : X.A.units + 64 < cLine) : CalS X W (.builtin "sorted") bSortedN := by
  intro pins s σ m st l vs us Q I rv rm ra hp
  unfold bSortedN at hp
  split at hp
  · obtain ⟨v, rfl, hv⟩ := reps1 ra
    split at hp
    · rename_i l h
      split at hp
      · rename_i ho
        obtain ⟨q, ws, rfl, k1, k2⟩ := items_of rm hv h
        rw [Vals.ref1 rv]
        exact sorted_run hu I rm k1 k2 ho fun p vs' hn q' => post_new hp rm q' p hn
      · exact False.elim hp
    · exact False.elim hp
  · exact False.elim hp
end
end Sh
/-! Part ZG: a walk of a locked dict's keys. -/
namespace Sh
open PySem L2 He
@[simp] def iKeysD (f : EF) : IF := fun sg st => (f sg st).bind fun x st1 => match x with
  | .loc n => match st1[n]? with
    | some (.lock l o kvs) => .ok ⟨l.map fun kv => kyD kv.1, fun st => st[n]? = some (.lock l o kvs)⟩ st1
    | _ => .bad
  | _ => .bad
section
variable {X : Cx} {W : We} {tg e : Expr} {f : EF}
theorem si_keys (he : SE X W e f) : SI X W tg e (iKeysD f) :=
  pi_weak (pi_keys he) fun σ H R ⟨m, sg, st, e, rm, rs, hp⟩ => ⟨m, sg, st, e, rm, rs, hp.bindc fun m1 x v st1 e1 r1 q1 hp1 => by
    split at hp1
    · rename_i n
      split at hp1
      · rename_i l o kvs hn
        cases q1 with
        | loc hr =>
          obtain ⟨k1, k2, k3⟩ := r1.obj _ _ _ hr hn
          exact ⟨_, o, rfl, .inl ⟨kvs, k1, hp1.okc r1 (keys_it hr)⟩⟩
      · exact False.elim hp1
    · exact False.elim hp1⟩
end
/-! + of lists, one of which stands in the store; a sum that is changed later -/
def lstH : D → Sto → Option (List D)
  | .lst l, _ => some l
  | .loc n, st => match st[n]? with
    | some (.lst l) => some l
    | _ => none
  | _, _ => none
@[simp] theorem lstH_lst (l : List D) (st : Sto) : lstH (.lst l) st = some l := rfl
def dAddL : D → D → Sto → Res D := fun x y st => match lstH x st, lstH y st with
  | some l, some l' => if l.length + l'.length ≤ 16777216 then .ok (.lst (l ++ l')) st else .bad
  | _, _ => .bad
def dAddN : D → D → Sto → Res D := fun x y st => match lstH x st, lstH y st with
  | some l, some l' => if l.length + l'.length ≤ 16777216 then .ok (.loc st.length) (st ++ [.lst (l ++ l')]) else .bad
  | _, _ => .bad
section
variable {X : Cx} {W : We}
theorem lst_h {m : Hw} {st : Sto} {x : D} {v : V} {l : List D} (rm : Rel X.K X.mg m st) (h : Rep X.K X.mg m.r m.g x v) (e : lstH x st = some l) : ∃ p vs, v = .ref p ∧ m.h p = some (.lst vs) ∧ Reps X.K X.mg m.r m.g l vs := by
  unfold lstH at e
  split at e
  · cases e
    cases h with
    | lst h1 h2 => exact ⟨_, _, rfl, rm.sub _ _ h1, h2⟩
  · cases h with
    | loc h1 =>
      split at e
      · rename_i l' hl
        cases e
        obtain ⟨vs, k1, k2⟩ := rm.obj _ _ _ h1 hl
        exact ⟨_, vs, rfl, k1, k2⟩
      · cases e
  · cases e
theorem fits_addL : Fits2 X W (fun x y H Q => rAddA x y H Q ∨ rCatA X.K x y H Q) dAddL := by
  intro m st σ x y v w Q rm ra rb hp
  unfold dAddL at hp
  split at hp
  · rename_i l l' e1 e2
    split at hp
    · rename_i h
      obtain ⟨p, vs, rfl, h1, h2⟩ := lst_h rm ra e1
      obtain ⟨p', vs', rfl, h3, h4⟩ := lst_h rm rb e2
      refine .inl (.inr (.inr (.inr ⟨_, _, _, _, rfl, rfl, h1, h3, ?_, hp.lay (α := D) rm fun p hn => ?_⟩)))
      · rw [← h2.length, ← h4.length]; exact le_line.mp h
      · exact .lst upd_same ((h2.append h4).mono (Ext.lay rm hn))
    · exact False.elim hp
  · exact False.elim hp
theorem fits_addN : Fits2 X W (fun x y H Q => rAddA x y H Q ∨ rCatA X.K x y H Q) dAddN := by
  intro m st σ x y v w Q rm ra rb hp
  unfold dAddN at hp
  split at hp
  · rename_i l l' e1 e2
    split at hp
    · rename_i h
      obtain ⟨p, vs, rfl, h1, h2⟩ := lst_h rm ra e1
      obtain ⟨p', vs', rfl, h3, h4⟩ := lst_h rm rb e2
      refine .inl (.inr (.inr (.inr ⟨_, _, _, _, rfl, rfl, h1, h3, ?_, post_new hp rm (h2.append h4)⟩)))
      rw [← h2.length, ← h4.length]; exact le_line.mp h
    · exact False.elim hp
  · exact False.elim hp
end
@[simp] theorem ev_dKey : type_of% @dKey.eq_def := @dKey.eq_def
@[simp] theorem ev_dDget : type_of% @dDget.eq_def := @dDget.eq_def
@[simp] theorem ev_dInD : type_of% @dInD.eq_def := @dInD.eq_def
@[simp] theorem ev_dGet : type_of% @dGet.eq_def := @dGet.eq_def
@[simp] theorem ev_isDict : type_of% @isDict.eq_def := @isDict.eq_def
@[simp] theorem ev_stDict : type_of% @stDict.eq_def := @stDict.eq_def
@[simp] theorem ev_rDput : type_of% @rDput.eq_def := @rDput.eq_def
@[simp] theorem ev_dDpop : type_of% @dDpop.eq_def := @dDpop.eq_def
@[simp] theorem ev_mkLG : type_of% @mkLG.eq_def := @mkLG.eq_def
@[simp] theorem ev_mkL : type_of% @mkL.eq_def := @mkL.eq_def
@[simp] theorem ev_rAugF : type_of% @rAugF.eq_def := @rAugF.eq_def
@[simp] theorem ev_dAddI : type_of% @dAddI.eq_def := @dAddI.eq_def
@[simp] theorem ev_lstH : type_of% @lstH.eq_def := @lstH.eq_def
@[simp] theorem ev_dAddL : type_of% @dAddL.eq_def := @dAddL.eq_def
@[simp] theorem ev_dAddN : type_of% @dAddN.eq_def := @dAddN.eq_def
end Sh
/-! Part ZH: sorted(d.items()). -/
namespace Sh
open PySem L2 He
open L2.DX (itemsO itemsO_ok)
def itemsD (l : List (Key × D)) : List D := l.map fun kv => .tup [kyD kv.1, kv.2]
open Classical in
@[simp] noncomputable def fSortI (f : EF) : EF := fun sg st => (f sg st).bind fun x st1 => match x with
  | .loc n => match st1[n]? with
    | some (.dict l) => if srtOk (itemsD l) then .ok (.lst (srtD (itemsD l))) st1 else .bad
    | _ => .bad
  | _ => .bad
open Classical in
@[simp] noncomputable def fSortIN (f : EF) : EF := fun sg st => (f sg st).bind fun x st1 => match x with
  | .loc n => match st1[n]? with
    | some (.dict l) => if srtOk (itemsD l) then .ok (.loc st1.length) (st1 ++ [.lst (srtD (itemsD l))]) else .bad
    | _ => .bad
  | _ => .bad
section
variable {X : Cx} {W : We}
def rItemsK : V → List V → Hp → VK → Prop := fun x xs H Q => ∃ (a : Addr) (kvs : List (Key × V)), x = .ref a ∧ xs = [] ∧ Rd H a (.dK kvs) ∧ ∀ p, H p = none → Q (.ref p) (upd H p (itemsO p a))
theorem mt_itemsK : MtR X "dict.items" rItemsK := by
  intro pins s σ H x xs v us Q I rx rxs h
  obtain ⟨a, kvs, rfl, rfl, ha, q⟩ := h
  cases rx
  cases rxs
  obtain ⟨z, hd, vs, rel, dd⟩ := dk_rd I.hok ha
  have hf : H s.heap.objs.size = none := I.hok.fresh (Nat.le_refl _)
  refine call_meetsIn PySem.F.slot_dict_items dd.typeIs PySem.F.entry_dict_items (PySem.F.args_dict_items_1 _) (meets_dict_items (mixKind X.prog X.w) a hd) ⟨⟨vs, dd⟩, ?_⟩
  exact ⟨.ref s.heap.objs.size, upd H s.heap.objs.size (itemsO s.heap.objs.size a), I.laid (t' := s.toks) (fun b u e => Heap.get?_push_of_some _ e) (Nat.le_refl _) (itemsO_ok (Heap.get?_push_size _ rfl)), rfl, q _ hf⟩
/-- the pairs that were collected are laid into the world -/
theorem take_tups {pins : List (Addr × Obj)} {s : Shared} {σ : St} {H0 : Hp} {h' : Heap} {tk : Nat} {m : Hw} {st : Sto} (I0 : Inv X pins σ H0 s) : ∀ (es : List (Addr × Key × D × V)) (m1 : Hw), Inv X pins σ m1.h { s with heap := h', toks := tk } → Ext m m1 → Rel X.K X.mg m1 st → (es.map (·.1)).Nodup →
    (∀ e ∈ es, s.heap.objs.size ≤ e.1 ∧ m1.h e.1 = none ∧ Rep X.K X.mg m.r m.g e.2.2.1 e.2.2.2 ∧ ∀ H2, ObjOk X.prog X.w H2 h' e.1 (.tup [kV e.2.1, e.2.2.2])) →
    ∃ m2, Inv X pins σ m2.h { s with heap := h', toks := tk } ∧ Ext m m2 ∧ Rel X.K X.mg m2 st ∧ Ext m1 m2 ∧ ∀ e ∈ es, Rep X.K X.mg m2.r m2.g (.tup [kyD e.2.1, e.2.2.1]) (.ref e.1)
  | [], m1, I1, x1, r1, _, _ => ⟨m1, I1, x1, r1, Ext.refl _, fun _ h => absurd h (by simp)⟩
  | e :: es, m1, I1, x1, r1, hn, h => by
    obtain ⟨hb, hnone, hrep, ok⟩ := h e List.mem_cons_self
    rw [List.map_cons, List.nodup_cons] at hn
    have I2 : Inv X pins σ (m1.lay e.1 (.tup [kV e.2.1, e.2.2.2])).h { s with heap := h', toks := tk } := I1.take (h' := h') (t' := tk) (fun b ob _ z => z) (I0.fpOk hb hnone) (ok _)
    have x2 : Ext m1 (m1.lay e.1 (.tup [kV e.2.1, e.2.2.2])) := Ext.lay r1 hnone
    obtain ⟨m2, I3, x3, r3, x4, q⟩ := take_tups I0 es _ I2 (x1.trans x2) (r1.lay hnone) hn.2 fun c hc => by
      obtain ⟨c1, c2, c3⟩ := h c (List.mem_cons_of_mem _ hc)
      refine ⟨c1, ?_, c3⟩
      show upd m1.h e.1 _ c.1 = none
      rw [upd_ne (fun z => hn.1 (by rw [← z]; exact List.mem_map.mpr ⟨c, hc, rfl⟩))]
      exact c2
    refine ⟨m2, I3, x3, r3, x2.trans x4, fun c hc => ?_⟩
    rcases List.mem_cons.mp hc with rfl | hc
    · exact Rep.mono x4 (.tup (.of upd_same) (.cons (kyD_rep _) (.cons (hrep.mono (x1.trans x2)) .nil)))
    · exact q c hc
/-- sorted of the view p of the dict a -/
def rSortV (X : Cx) (W : We) (σ : St) (N : Bool) : List V → Hp → VK → Prop := fun vs H Q => ∃ (p a : Addr) (m : Hw) (st : Sto) (n : Nat) (l : List (Key × D)), vs = [.ref p] ∧ H = upd m.h p (itemsO p a) ∧ m.h p = none ∧ Rel X.K X.mg m st ∧ m.r[n]? = some a ∧ kvS st[n]? = some l ∧ srtOk (itemsD l) ∧
  Post X.K X.mg W.w m σ (RD X.K X.mg) Q (if N = true then .ok (.loc st.length) (st ++ [.lst (srtD (itemsD l))]) else .ok (.lst (srtD (itemsD l))) st)
theorem cr_sortV (hc : X.calm = true) (hu : X.A.units + 64 < cLine) {N : Bool} {σ0 : St} : CallR X (.builtin "sorted") (rSortV X W σ0 N) := by
  intro pins s σ H vs us Q I r h
  obtain ⟨p, a, m, st, n, l, rfl, rfl, hpn, rm, ra, hl, ho, hp⟩ := h
  rw [Vals.ref1 r]
  have rm0 : Rel X.K X.mg (m.put p (itemsO p a)) st := rm.side (rm.fresh hpn) (rm.gnone hpn)
  have x0 : Ext m (m.put p (itemsO p a)) := (Ext.refl m).side hpn
  have view : s.heap.IsItemsView p a := (show ObjOk X.prog X.w (upd m.h p (itemsO p a)) s.heap p (itemsO p a) from I.hok p _ upd_same).1
  obtain ⟨a', kvs, ea, k1, k2⟩ := dict_rd rm (.loc ra) hl
  cases ea
  have hap : a ≠ p := fun z => by
    subst z
    rcases k1 with k1 | ⟨_, k1⟩ <;> rw [hpn] at k1 <;> cases k1
  have k1' : Rd (upd m.h p (itemsO p a)) a (.dK kvs) := by
    rcases k1 with k1 | ⟨o, k1⟩
    · exact .inl (by rw [upd_ne hap]; exact k1)
    · exact .inr ⟨o, by rw [upd_ne hap]; exact k1⟩
  obtain ⟨z, hd, xs, rel, dd⟩ := dk_rd I.hok k1'
  obtain ⟨ep, hat⟩ := dd.dictAt
  obtain ⟨⟨ds, h1⟩, h2, h3, h4, h5⟩ := ho
  obtain ⟨_, hpy⟩ := toPys_map h1
  obtain ⟨q1, q2⟩ := KRel.to k2
  have hkl : kvs.length = l.length := by have := congrArg List.length q1; simpa using this
  have hil : (itemsD l).length = l.length := by simp [itemsD]
  have hxl : xs.length = kvs.length := (Paired.length rel).symm
  have hsz : xs.length ≤ sizeLine := by rw [hxl, hkl, sizeLine_eq]; omega
  -- what is at each place
  have at_ : ∀ (j : Nat), j < l.length → ∃ k d v x, l[j]? = some (k, d) ∧ kvs[j]? = some (k, v) ∧ xs[j]? = some (k, x) ∧ RelV v x ∧ Rep X.K X.mg m.r m.g d v := fun j hj => by
    obtain ⟨⟨k, d⟩, hd⟩ : ∃ kd, l[j]? = some kd := ⟨l[j], List.getElem?_eq_getElem hj⟩
    obtain ⟨v, a1, a2⟩ := kv_at q1 q2 hd
    obtain ⟨x, b1, b2⟩ := kv_get rel a1
    exact ⟨k, d, v, x, hd, a1, b1, b2, a2⟩
  refine sorted_col (β := D) (enc := pyD) (P := fun us s1 => ∃ (h' : Heap) (tk : Nat) (as : List Addr), s1 = { s with heap := h', toks := tk } ∧ (∀ b o, s.heap.get? b = some o → h'.get? b = some o) ∧ as.length = xs.length ∧ PySem.W.KdxG (mixKind X.prog X.w) xs s.heap.objs.size h' as ∧ us = as.map Value.ref) (PyProof.Rows.args_sorted1 _) (fun E' Q' hq => ?_) fun us s1 hP => ?_
  · exact PySem.W.kdx_collect (knd := mixKind X.prog X.w) (kvs := xs) (ep := ep) (I.ok.hd hc) view hat hsz fun h' tk as hk hlen G => hq _ _ ⟨h', tk, as, rfl, hk, hlen, G, rfl⟩
  · obtain ⟨h', tk, as, rfl, hk, hlen, G, rfl⟩ := hP
    have I1 : Inv X pins σ (m.put p (itemsO p a)).h { s with heap := h', toks := tk } := I.kept (t' := tk) hk
    -- the pairs with their places
    have hle : as.length = l.length := by rw [hlen, hxl, hkl]
    obtain ⟨es, e1, e2, e3⟩ : ∃ es : List (Addr × Key × D × V), es.map (·.1) = as ∧ (es.map fun e => D.tup [kyD e.2.1, e.2.2.1]) = itemsD l ∧
        ∀ e ∈ es, s.heap.objs.size ≤ e.1 ∧ Rep X.K X.mg m.r m.g e.2.2.1 e.2.2.2 ∧ ∀ H2, ObjOk X.prog X.w H2 h' e.1 (.tup [kV e.2.1, e.2.2.2]) := by
      refine ⟨(List.range l.length).map fun j => (as[j]?.getD 0, (l[j]?.getD (.inl 0, .non)).1, (l[j]?.getD (.inl 0, .non)).2, (kvs[j]?.getD (.inl 0, .non)).2), ?_, ?_, fun e he => ?_⟩
      · rw [List.map_map]
        refine List.ext_getElem (by simp [hle]) fun j hj _ => ?_
        simp at hj
        simp [hle, hj]
      · unfold itemsD
        rw [List.map_map]
        refine List.ext_getElem (by simp) fun j hj _ => ?_
        simp at hj
        simp [hj]
      · obtain ⟨j, hj, rfl⟩ := List.mem_map.mp he
        have hj := List.mem_range.mp hj
        obtain ⟨k, d, v, x, a1, a2, a3, a4, a5⟩ := at_ j hj
        have hja : as[j]? = some as[j] := List.getElem?_eq_getElem (by omega)
        obtain ⟨key, k', x', b1, b2, b3⟩ := G.pairs j _ hja
        rw [a3] at b1
        cases b1
        rw [a1, a2, hja]
        refine ⟨Nat.le_of_lt (G.above _ (List.getElem_mem _)), a5, fun H2 => ?_⟩
        exact ⟨by show 2 ≤ sizeLine; decide, [key, x], .cons (relV_key (show keyIs k key = true from b2)) (.cons a4 .nil), ⟨_, b3, rfl, _, rfl⟩⟩
    have nd : (es.map (·.1)).Nodup := by
      rw [e1, List.nodup_iff_pairwise_ne]
      exact G.rise.imp fun h => Nat.ne_of_lt h
    obtain ⟨m2, I2, x2, r2, _, q2⟩ := take_tups (h' := h') (tk := tk) I es (m.put p (itemsO p a)) I1 x0 rm0 nd fun e he => by
      obtain ⟨c1, c2, c3⟩ := e3 e he
      exact ⟨c1, I.hok.fresh c1, c2, c3⟩
    have ee : PySem.W.EachIs (fun (u : Value) (d : D) => ∃ v, RelV v u ∧ Rep X.K X.mg m2.r m2.g d v) (as.map Value.ref) (itemsD l) := by
      rw [← e1, ← e2, List.map_map]
      clear e1 e2 e3 nd
      induction es with
      | nil => exact .nil
      | cons e es ih => exact .cons ⟨.ref e.1, rfl, q2 e List.mem_cons_self⟩ (ih fun c hc => q2 c (List.mem_cons_of_mem _ hc))
    have er : PySem.W.EachIs (fun (u : Value) (d : D) => ∃ as, PySem.Reads h' u (pyD d) as) (as.map Value.ref) (itemsD l) := by
      obtain ⟨vs', rp, rv⟩ := each_back ee
      exact each_reads (s := { s with heap := h', toks := tk }) I2 r2 rp rv hpy
    refine ⟨_, itemsD l, ee, er, h2, h3, by rw [sizeLine_eq]; omega, fun x hx => by have := h4 x hx; omega, fun h3 out ep k2 hat hE => ?_⟩
    obtain ⟨vs', q', rv'⟩ := each_back hE
    have hlen' : vs'.length ≤ sizeLine := by
      rw [← q'.length]
      show (srtD (itemsD l)).length ≤ _
      rw [srt_length, sizeLine_eq]; omega
    have hfr : m2.h h'.objs.size = none := I2.hok.fresh (Nat.le_refl _)
    have I3 : Inv X pins σ (upd m2.h h'.objs.size (.lst vs')) { s with heap := h3, toks := tk } := I2.laid (t' := tk) k2 (Nat.le_refl _) ⟨hlen', out, ep, rv', hat⟩
    have hp2 := Post.mono hp x2
    refine ⟨.ref h'.objs.size, _, I3, rfl, ?_⟩
    cases N with
    | true => exact post_new hp2 r2 q' _ hfr
    | false => exact hp2.lay (α := D) r2 (fun p hn => .lst upd_same (q'.mono (Ext.lay r2 hn))) _ hfr
variable {e : Expr} {f : EF} {x : Str} {p pos apos cpos : Pos}
theorem sortV_TE {N : Bool} {F : EF} (hF : ∀ sg st, F sg st = (f sg st).bind fun x st1 => match x with
    | .loc n => match st1[n]? with
      | some (.dict l) => open Classical in if srtOk (itemsD l) then (if N = true then .ok (.loc st1.length) (st1 ++ [.lst (srtD (itemsD l))]) else .ok (.lst (srtD (itemsD l))) st1) else .bad
      | _ => .bad
    | _ => .bad) {σ : St} {H : Hp} {Q : VK} (h : TOf X.K X.mg W (RD X.K X.mg) F σ H Q) : tCB (rSortV X W σ N) (tCons (tBM0 X.K "dict" rItemsK (TOf X.K X.mg W (RD X.K X.mg) f)) tNil) σ H Q := by
  obtain ⟨m, sg, st, e, rm, rs, hp⟩ := h
  rw [hF] at hp
  refine ⟨m, sg, st, e, rm, rs, hp.bindc fun m1 y v st1 e1 r1 q1 hp1 => ?_⟩
  split at hp1
  · rename_i n
    split at hp1
    · rename_i l hl
      split at hp1
      · rename_i ho
        obtain ⟨a, kvs, rfl, k1, k2⟩ := dict_at r1 q1 hl
        cases q1 with
        | loc ra =>
          refine ⟨?_, a, kvs, rfl, rfl, .inl k1, fun p hn => ?_⟩
          · unfold tyV; simp [k1]
          · exact ⟨p, a, m1, st1, n, l, rfl, rfl, hn, r1, ra, by rw [hl]; rfl, ho, hp1⟩
      · exact False.elim hp1
    · exact False.elim hp1
  · exact False.elim hp1
theorem pe_sortV (hc : X.calm = true) (hu : X.A.units + 64 < cLine) (hg : Gl X x) (hm : X.mg x = none) (hv : bootBuiltins x = some (.builtin "sorted")) (he : SE X W e f) {N : Bool} {σ : St} (hn : x ≠ "__name__" := by decide) (hdb : (x == ("__debug__" : Str)) = false := by decide)
    (hb : attributeBase e "items" X.env (eval e X.env) = eval e X.env := by rfl) (hl : (apos.endLine == cpos.line) = true := by rfl)
    (h1 : starEach [.Call (.Attribute e "items" apos) [] [] cpos] X.env = (false, eval (.Call (.Attribute e "items" apos) [] [] cpos) X.env) :: starEach [] X.env := by rfl) (hpl : (backTo pos (starEach [] X.env)).any (·.1) = false := by rfl) :
    PE X (.Call (.Name x p) [.Call (.Attribute e "items" apos) [] [] cpos] [] pos) (tCB (rSortV X W σ N) (tCons (tBM0 X.K "dict" rItemsK (TOf X.K X.mg W (RD X.K X.mg) f)) tNil)) :=
  pe_callB (cr_sortV hc hu) hg hm hv (pa_cons (pe_bm0 PySem.F.plainAttrs_dict PySem.F.slot_dict_items PySem.F.type_dict_items mt_itemsK he hb hl) pa_nil h1) hn hdb h1 hpl
theorem se_sortI (hc : X.calm = true) (hu : X.A.units + 64 < cLine) (hg : Gl X x) (hm : X.mg x = none) (hv : bootBuiltins x = some (.builtin "sorted")) (he : SE X W e f) (hn : x ≠ "__name__" := by decide) (hdb : (x == ("__debug__" : Str)) = false := by decide)
    (hb : attributeBase e "items" X.env (eval e X.env) = eval e X.env := by rfl) (hl : (apos.endLine == cpos.line) = true := by rfl)
    (h1 : starEach [.Call (.Attribute e "items" apos) [] [] cpos] X.env = (false, eval (.Call (.Attribute e "items" apos) [] [] cpos) X.env) :: starEach [] X.env := by rfl) (hpl : (backTo pos (starEach [] X.env)).any (·.1) = false := by rfl) :
    SE X W (.Call (.Name x p) [.Call (.Attribute e "items" apos) [] [] cpos] [] pos) (fSortI f) :=
  ⟨fun pins s σ H Q I h => (pe_sortV (N := false) (W := W) (σ := σ) hc hu hg hm hv he hn hdb hb hl h1 hpl).run pins s σ H Q I (sortV_TE (F := fSortI f) (N := false) (fun sg st => by
    unfold fSortI; congr 1) h)⟩
theorem se_sortIN (hc : X.calm = true) (hu : X.A.units + 64 < cLine) (hg : Gl X x) (hm : X.mg x = none) (hv : bootBuiltins x = some (.builtin "sorted")) (he : SE X W e f) (hn : x ≠ "__name__" := by decide) (hdb : (x == ("__debug__" : Str)) = false := by decide)
    (hb : attributeBase e "items" X.env (eval e X.env) = eval e X.env := by rfl) (hl : (apos.endLine == cpos.line) = true := by rfl)
    (h1 : starEach [.Call (.Attribute e "items" apos) [] [] cpos] X.env = (false, eval (.Call (.Attribute e "items" apos) [] [] cpos) X.env) :: starEach [] X.env := by rfl) (hpl : (backTo pos (starEach [] X.env)).any (·.1) = false := by rfl) :
    SE X W (.Call (.Name x p) [.Call (.Attribute e "items" apos) [] [] cpos] [] pos) (fSortIN f) :=
  ⟨fun pins s σ H Q I h => (pe_sortV (N := true) (W := W) (σ := σ) hc hu hg hm hv he hn hdb hb hl h1 hpl).run pins s σ H Q I (sortV_TE (F := fSortIN f) (N := true) (fun sg st => by
    unfold fSortIN; congr 1) h)⟩
end
end Sh
/-! Part ZI: range with a step -/
namespace Sh
open PySem L2
section
variable {X : Cx} {W : We} {tg a b c : Expr} {p pos : Pos} {g : AF}
def rngC (lo c : Int) (n : Nat) : List D := (List.range n).map fun (i : Nat) => .int (lo + (i : Int) * c)
theorem itc_ok {K : PySem.W.Frag} {mg : Str → Option Value} {m : Hw} {lo c : Int} {n : Nat} {ck : Sto → Prop} : ItOk K mg m (Itc lo c n) (rngC lo c n) ck := by
  intro m1 st1 e1 r1 c1 i
  refine ⟨fun hl => by
    have hl' : n ≤ i := by simpa [rngC] using hl
    exact hl', fun d hd => ?_⟩
  unfold rngC at hd
  rw [List.getElem?_map] at hd
  by_cases hi : i < n
  · rw [List.getElem?_range hi] at hd
    cases hd
    exact ⟨hi, fun x H' ⟨e, y⟩ => ⟨m1, e.symm, Ext.refl _, r1, by rw [y]; exact .int _⟩⟩
  · rw [List.getElem?_eq_none (by simpa using hi)] at hd
    cases hd
open Classical in
noncomputable def iRange3 (g : AF) : IF := fun sg st => (g sg st).bind fun l st1 => match l with
  | [.int i, .int j, .int c] => if RgC i j c (Builtin.Range.rangeSize i j c).toNat then .ok ⟨rngC i c (Builtin.Range.rangeSize i j c).toNat, fun _ => True⟩ st1 else .bad
  | _ => .bad
theorem si_range3 (hg : Gl X "range") (hm : X.mg "range" = none) (ha : SA X W [a, b, c] g)
    (hs : starEach [a, b, c] X.env = (false, eval a X.env) :: starEach [b, c] X.env := by rfl) (hpl : (backTo pos (starEach [b, c] X.env)).any (·.1) = false := by rfl) : SI X W tg (.Call (.Name "range" p) [a, b, c] [] pos) (iRange3 g) :=
  pi_weak (pi_range3 hg hm ha hs hpl) fun σ H R ⟨m, sg, st, e, rm, rs, hp⟩ => ⟨m, sg, st, e, rm, rs, by
    unfold iRange3 at hp
    exact hp.bindc fun m1 l vs st1 e1 r1 q1 hp1 => by
      split at hp1
      · cases q1 with
        | cons h1 q2 => cases q2 with
          | cons h2 q3 => cases q3 with
            | cons h3 q4 =>
              cases q4; cases h1; cases h2; cases h3
              split at hp1
              · rename_i h
                exact ⟨_, _, _, _, rfl, h, hp1.okc r1 itc_ok⟩
              · exact False.elim hp1
      · exact False.elim hp1⟩
end
theorem iRange3_down {g : AF} {sg : Sg} {st st1 : Sto} {i j : Int} (h : g sg st = .ok [.int i, .int j, .int (-1)] st1) (ha : -(2 ^ 62) ≤ i) (ha' : i < 2 ^ 62) (hb : -(2 ^ 62) ≤ j) (hb' : j < 2 ^ 62) : iRange3 g sg st = .ok ⟨rngC i (-1) (i - j).toNat, fun _ => True⟩ st1 := by
  have r := RgC.neg ha ha' hb hb'
  have e : (Builtin.Range.rangeSize i j (-1)).toNat = (i - j).toNat := by rw [r.2.2.2]; rfl
  unfold iRange3
  rw [h]
  rw [← e] at r ⊢
  exact if_pos r
end Sh
/-! Part ZJ: a text's [::-1] -/
namespace Sh
open PySem PySem.Spec PyProof.Rows L2
/-- the text's signs from its end, as the interpreter picks them -/
def revS (z : Str) : Str := ⟨((Builtin.Str.strSliceIndices none none (-1) z.length).filterMap (z.cps[·]?)).toArray⟩
def tRevS (te : TE) : TE := fun σ H Q => te σ H fun x H1 => ∃ z, x = .str z ∧ (revS z).length ≤ sizeLine ∧ Q (.str (revS z)) H1
section
variable {X : Cx} {W : We} {e : Expr} {te : TE} {k : Nat} {p1 p2 p3 pos : Pos} {f : EF}
theorem pe_revS (he : PE X e te) : PE X (.Subscript e (.Slice none none (some (.UnaryOp .USub (.Constant (.int 1) k p1) p2)) p3) pos) (tRevS te) := by
  refine ⟨fun pins s σ H Q I h => ?_⟩
  refine Subscript_ (thn (he.run pins s σ H _ I h) fun v s1 ⟨x, H1, I1, r1, q1⟩ => ?_)
  obtain ⟨z, ex, hz, q⟩ := q1
  subst ex
  obtain ⟨t, rfl⟩ := r1
  have hst : PO X (some (.UnaryOp .USub (.Constant (.int 1) k p1) p2)) (tPart (tUn (rU fun i => .int (-i)) (tC (.int 1)))) := po_some (pe_un un_neg pe_int)
  refine wpAny_Slice (thn (po_none.run pins s1 σ H1 (fun o H2 => o = none ∧ H2 = H1) I1 ⟨rfl, rfl⟩) fun vl s2 ⟨l, H2, I2, pl, el, e2⟩ => ?_)
  subst el e2
  refine thn (po_none.run pins s2 σ H2 (fun o H3 => o = none ∧ H3 = H2) I2 ⟨rfl, rfl⟩) fun vu s3 ⟨u, H3, I3, pu, eu, e3⟩ => ?_
  subst eu e3
  refine thn (hst.run pins s3 σ H3 (fun o H4 => o = some (-1) ∧ H4 = H3) I3 ⟨1, rfl, -1, rfl, rfl, rfl⟩) fun vs s4 ⟨o, H4, I4, ps, eo, e4⟩ => ?_
  subst eo e4
  have I5 : Inv X pins σ H4 { s4 with heap := s4.heap.push { cls := .type "slice", data := .fields #[vl, vu, vs] } } := I4.kept (t' := s4.toks) fun b ob q => Heap.get?_push_of_some _ q
  obtain ⟨l, rfl, hl⟩ := IsPart.raw pl
  obtain ⟨u, rfl, hu⟩ := IsPart.raw pu
  obtain ⟨w, rfl, hw⟩ := IsPart.raw ps
  show wpAny (model X.prog X.w) X.A (subscriptTail e (.Slice none none (some (.UnaryOp .USub (.Constant (.int 1) k p1) p2)) p3) (.str z t) (.ref s4.heap.objs.size)) (EP X pins σ Q) X.xe { s4 with heap := s4.heap.push { cls := .type "slice", data := .fields #[PySem.partValue l, PySem.partValue u, PySem.partValue w] } }
  refine tail_any (ops := [.str z t, .ref s4.heap.objs.size]) (typeIs_str _ _ _) (PySem.F.slot_str_getitem.lookup) ?_ (by with_unfolding_all rfl)
  refine wpAny_getItem_str_slice (l := l) (u := u) (st := w) ⟨_, Heap.get?_push_size _ rfl, rfl, rfl⟩ (by rw [hw]; rfl) ?_
  have e1 : PySem.sliceMade z t l u w = .str (revS z) := by
    unfold PySem.sliceMade PySem.slicePicked revS
    rw [hl, hu, hw]
    rfl
  rw [e1]
  exact ⟨hz, .str _, H4, I5.tok _, ⟨_, rfl⟩, q⟩
@[simp] def fRevS (f : EF) : EF := fun sg st => (f sg st).bind fun x st1 => match x with
  | .str z => if (revS z).length ≤ 16777216 then .ok (.str (revS z)) st1 else .bad
  | _ => .bad
theorem se_revS (he : SE X W e f) : SE X W (.Subscript e (.Slice none none (some (.UnaryOp .USub (.Constant (.int 1) k p1) p2)) p3) pos) (fRevS f) :=
  pe_weak (pe_revS he) fun σ H Q ⟨m, sg, st, em, rm, rs, hp⟩ => ⟨m, sg, st, em, rm, rs, hp.bindc fun m1 x v st1 e1 r1 q1 hp1 => by
    split at hp1
    · cases q1 with
      | str =>
        split at hp1
        · rename_i h
          exact ⟨_, rfl, by rw [sizeLine_eq]; exact h, hp1.okc r1 (.str _)⟩
        · exact False.elim hp1
    · exact False.elim hp1⟩
end
end Sh
/-! Part ZK: sum and min of a list of ints -/
namespace Sh
open PySem L2
def bSum : List D → Sto → Res D
  | [x], st => match (lstOf x st).bind intsOfD with
    | some ns => .ok (.int ns.sum) st
    | none => .bad
  | _, _ => .bad
def bMinL : List D → Sto → Res D
  | [x], st => match (lstOf x st).bind intsOfD with
    | some (n :: ns) => .ok (.int (PySem.W.minOf n ns)) st
    | _ => .bad
  | _, _ => .bad
theorem foldl_min : ∀ (ns : List Int) (n : Int), PySem.W.minOf n ns ∈ n :: ns ∧ ∀ y ∈ n :: ns, PySem.W.minOf n ns ≤ y
  | [], n => ⟨by simp [PySem.W.minOf], fun y hy => by
      have e : y = n := by simpa using hy
      rw [e]; exact Int.le_refl _⟩
  | m :: ns, n => by
    have e : PySem.W.minOf n (m :: ns) = PySem.W.minOf (if PySem.W.DatumOrd.lt m n = true then m else n) ns := rfl
    have lt : PySem.W.DatumOrd.lt m n = decide (m < n) := rfl
    rw [e, lt]
    by_cases c : m < n
    · rw [if_pos (decide_eq_true c)]
      obtain ⟨a, b⟩ := foldl_min ns m
      refine ⟨List.mem_cons_of_mem _ a, fun y hy => ?_⟩
      rcases List.mem_cons.mp hy with rfl | hy
      · exact Int.le_trans (b m List.mem_cons_self) (Int.le_of_lt c)
      · exact b y hy
    · rw [if_neg (by simpa using c)]
      obtain ⟨a, b⟩ := foldl_min ns n
      refine ⟨?_, fun y hy => ?_⟩
      · rcases List.mem_cons.mp a with h | h
        · rw [h]; exact List.mem_cons_self
        · exact List.mem_cons_of_mem _ (List.mem_cons_of_mem _ h)
      · rcases List.mem_cons.mp hy with rfl | hy
        · exact b y List.mem_cons_self
        · rcases List.mem_cons.mp hy with rfl | hy
          · exact Int.le_trans (b n List.mem_cons_self) (by omega)
          · exact b y (List.mem_cons_of_mem _ hy)
section
variable {X : Cx} {W : We}
theorem fits_sum : FitsL X W (rSum X.K) bSum := by
  intro m st σ l vs Q rm ra hp
  unfold bSum at hp
  split at hp
  · obtain ⟨v, rfl, hv⟩ := reps1 ra
    split at hp
    · rename_i ns h
      obtain ⟨l, h1, h2⟩ := Option.bind_eq_some_iff.mp h
      obtain ⟨q, ws, rfl, k1, k2⟩ := lst_of rm hv h1
      exact ⟨_, ns, rfl, by rw [← ints_rep k2 h2]; exact k1, hp.okc rm (.int _)⟩
    · exact False.elim hp
  · exact False.elim hp
theorem fits_minL : FitsL X W (rMin X.K) bMinL := by
  intro m st σ l vs Q rm ra hp
  unfold bMinL at hp
  split at hp
  · obtain ⟨v, rfl, hv⟩ := reps1 ra
    split at hp
    · rename_i n ns h
      obtain ⟨l, h1, h2⟩ := Option.bind_eq_some_iff.mp h
      obtain ⟨q, ws, rfl, k1, k2⟩ := lst_of rm hv h1
      obtain ⟨a, b⟩ := foldl_min ns n
      refine ⟨_, n :: ns, rfl, by rw [← ints_rep k2 h2]; exact k1, Nat.succ_pos _, fun mm h3 h4 => ?_⟩
      have : mm = PySem.W.minOf n ns := Int.le_antisymm (h4 _ a) (b _ h3)
      rw [this]
      exact hp.okc rm (.int _)
    · exact False.elim hp
  · exact False.elim hp
end
@[simp] theorem ev_bSum : type_of% @bSum.eq_def := @bSum.eq_def
@[simp] theorem ev_bMinL : type_of% @bMinL.eq_def := @bMinL.eq_def
end Sh
/-! Part ZL: tuple(range(..)), list(range(..)), list(a dict) -/
namespace Sh
open PySem L2 He
section
variable {X : Cx} {W : We} {a b : Expr} {fa fb : EF} {pos p p2 pos2 : Pos}
def rgD (i j : Int) : List D := (List.range (j - i).toNat).map fun (k : Nat) => D.int (i + (k : Int))
instance rgOk_dec (i j : Int) : Decidable (RgOk i j) := by unfold RgOk; infer_instance
theorem rg_reps {m : Hw} (i j : Int) : Reps X.K X.mg m.r m.g (rgD i j) (rgV i j) := by
  have z := reps_ints (X := X) (m := m) ((List.range (j - i).toNat).map fun (k : Nat) => i + (k : Int))
  rw [List.map_map, List.map_map] at z
  exact z
def kRgT (i j : Int) (st : Sto) : Res D := if RgOk i j then .ok (.tup (rgD i j)) st else .bad
def kRgL (i j : Int) (st : Sto) : Res D := if RgOk i j then .ok (.lst (rgD i j)) st else .bad
def kRgLN (i j : Int) (st : Sto) : Res D := if RgOk i j then .ok (.loc st.length) (st ++ [.lst (rgD i j)]) else .bad
@[simp] def fRg1 (k : Int → Int → Sto → Res D) (fa : EF) : EF := fun sg st => (fa sg st).bind fun x st1 => match x with
  | .int n => k 0 n st1
  | _ => .bad
@[simp] def fRg2 (k : Int → Int → Sto → Res D) (fa fb : EF) : EF := fun sg st => (fa sg st).bind fun x st1 => (fb sg st1).bind fun y st2 => match x, y with
  | .int i, .int j => k i j st2
  | _, _ => .bad
def KRg (X : Cx) (W : We) (o : List V → HO) (k : Int → Int → Sto → Res D) : Prop := ∀ (m : Hw) (st : Sto) (σ : St) (i j : Int) (Q : VK), Rel X.K X.mg m st → Post X.K X.mg W.w m σ (RD X.K X.mg) Q (k i j st) → RgOk i j ∧ ∀ q, m.h q = none → Q (.ref q) (upd m.h q (o (rgV i j)))
theorem krg_t : KRg X W .tup kRgT := by
  intro m st σ i j Q rm hp
  unfold kRgT at hp
  split at hp
  · rename_i h
    refine ⟨h, hp.lay (α := D) rm fun p hn => ?_⟩
    exact .tup (.of upd_same) (rg_reps i j)
  · exact False.elim hp
theorem krg_l : KRg X W .lst kRgL := by
  intro m st σ i j Q rm hp
  unfold kRgL at hp
  split at hp
  · rename_i h
    refine ⟨h, hp.lay (α := D) rm fun p hn => ?_⟩
    exact .lst upd_same (rg_reps i j)
  · exact False.elim hp
theorem krg_n : KRg X W .lst kRgLN := by
  intro m st σ i j Q r1 hp1
  unfold kRgLN at hp1
  split at hp1
  · rename_i h
    refine ⟨h, fun p hn => ?_⟩
    refine hp1 (m.new p (.lst (rgV i j))) (.ref p) (Ext.new r1 hn) (r1.new hn ⟨_, upd_same, rg_reps i j (m := m.new p (.lst (rgV i j)))⟩) (.loc ?_)
    show (m.r ++ [p])[st.length]? = some p
    rw [← r1.len, List.getElem?_append_right (Nat.le_refl _)]
    simp
  · exact False.elim hp1
theorem tRg1_of {o : List V → HO} {k : Int → Int → Sto → Res D} (hk : KRg X W o k) {σ : St} {H : Hp} {Q : VK} (h : TOf X.K X.mg W (RD X.K X.mg) (fRg1 k fa) σ H Q) : tRg1 (TOf X.K X.mg W (RD X.K X.mg) fa) σ H fun a b H1 => RgOk a b ∧ ∀ q, H1 q = none → Q (.ref q) (upd H1 q (o (rgV a b))) := by
  obtain ⟨m, sg, st, rfl, rm, rs, hp⟩ := h
  refine ⟨m, sg, st, rfl, rm, rs, hp.bindc fun m1 x v st1 e1 r1 q1 hp1 => ?_⟩
  split at hp1
  · rename_i n
    cases q1
    exact ⟨n, rfl, hk m1 st1 σ 0 n Q r1 hp1⟩
  · exact False.elim hp1
theorem tRg2_of {o : List V → HO} {k : Int → Int → Sto → Res D} (hk : KRg X W o k) {σ : St} {H : Hp} {Q : VK} (h : TOf X.K X.mg W (RD X.K X.mg) (fRg2 k fa fb) σ H Q) : tRg2 (TOf X.K X.mg W (RD X.K X.mg) fa) (TOf X.K X.mg W (RD X.K X.mg) fb) σ H fun a b H1 => RgOk a b ∧ ∀ q, H1 q = none → Q (.ref q) (upd H1 q (o (rgV a b))) := by
  obtain ⟨m, sg, st, rfl, rm, rs, hp⟩ := h
  refine ⟨m, sg, st, rfl, rm, rs, hp.bindc fun m1 x v st1 e1 r1 q1 hp1 => ⟨m1, sg, st1, rfl, r1, rs.mono e1, hp1.bindc fun m2 y w st2 e2 r2 q2 hp2 => ?_⟩⟩
  split at hp2
  · rename_i i j
    cases q1.mono e2
    cases q2
    exact ⟨i, j, rfl, rfl, hk m2 st2 σ i j Q r2 hp2⟩
  · exact False.elim hp2
theorem se_tupRg1 (hc : X.calm = true) (hg : Gl X "tuple") (hm : X.mg "tuple" = none) (hg2 : Gl X "range") (hm2 : X.mg "range" = none) (ha : SE X W a fa) (na : starEach [a] X.env = (false, eval a X.env) :: starEach [] X.env := by rfl)
    (nb : starEach [.Call (.Name "range" p2) [a] [] pos2] X.env = (false, eval (.Call (.Name "range" p2) [a] [] pos2) X.env) :: starEach [] X.env := by rfl) : SE X W (.Call (.Name "tuple" p) [.Call (.Name "range" p2) [a] [] pos2] [] pos) (fRg1 kRgT fa) :=
  pe_weak (pe_tupRg hc hg hm (prg_1 hg2 hm2 ha na) nb) fun _ _ _ h => tRg1_of krg_t h
theorem se_listRg1 (hc : X.calm = true) (hg : Gl X "list") (hm : X.mg "list" = none) (hg2 : Gl X "range") (hm2 : X.mg "range" = none) (ha : SE X W a fa) (na : starEach [a] X.env = (false, eval a X.env) :: starEach [] X.env := by rfl)
    (nb : starEach [.Call (.Name "range" p2) [a] [] pos2] X.env = (false, eval (.Call (.Name "range" p2) [a] [] pos2) X.env) :: starEach [] X.env := by rfl) : SE X W (.Call (.Name "list" p) [.Call (.Name "range" p2) [a] [] pos2] [] pos) (fRg1 kRgL fa) :=
  pe_weak (pe_listRg hc hg hm (prg_1 hg2 hm2 ha na) nb) fun _ _ _ h => tRg1_of krg_l h
theorem se_listRgN1 (hc : X.calm = true) (hg : Gl X "list") (hm : X.mg "list" = none) (hg2 : Gl X "range") (hm2 : X.mg "range" = none) (ha : SE X W a fa) (na : starEach [a] X.env = (false, eval a X.env) :: starEach [] X.env := by rfl)
    (nb : starEach [.Call (.Name "range" p2) [a] [] pos2] X.env = (false, eval (.Call (.Name "range" p2) [a] [] pos2) X.env) :: starEach [] X.env := by rfl) : SE X W (.Call (.Name "list" p) [.Call (.Name "range" p2) [a] [] pos2] [] pos) (fRg1 kRgLN fa) :=
  pe_weak (pe_listRg hc hg hm (prg_1 hg2 hm2 ha na) nb) fun _ _ _ h => tRg1_of krg_n h
theorem se_tupRg2 (hc : X.calm = true) (hg : Gl X "tuple") (hm : X.mg "tuple" = none) (hg2 : Gl X "range") (hm2 : X.mg "range" = none) (ha : SE X W a fa) (hb : SE X W b fb) (na : starEach [a, b] X.env = (false, eval a X.env) :: starEach [b] X.env := by rfl)
    (nb : starEach [b] X.env = (false, eval b X.env) :: starEach [] X.env := by rfl) (hp : (backTo pos2 (starEach [b] X.env)).any (·.1) = false := by rfl)
    (nc : starEach [.Call (.Name "range" p2) [a, b] [] pos2] X.env = (false, eval (.Call (.Name "range" p2) [a, b] [] pos2) X.env) :: starEach [] X.env := by rfl) : SE X W (.Call (.Name "tuple" p) [.Call (.Name "range" p2) [a, b] [] pos2] [] pos) (fRg2 kRgT fa fb) :=
  pe_weak (pe_tupRg hc hg hm (prg_2 hg2 hm2 ha hb na nb hp) nc) fun _ _ _ h => tRg2_of krg_t h
end
end Sh
/-! Part ZM: x in d.values(), texts. -/
namespace PySem
open Sem (wp)
theorem vw_plain : plainId "proto.contains_iter" = true := by decide +kernel
theorem vw_entry : entryFor table "proto.contains_iter" = some Builtin.«proto.contains_iter» := entryFor_of_fast (by kernel_rfl)
theorem vw_look : typeLookup (.type "dict_values") "__contains__" = pure none := by rw [typeLookup_type, builtinLookup_eq_fast]; kernel_rfl
def vwHas {K : Type} (x : Str) (l : List (K × Value)) : Bool := l.any fun kv => match kv.2 with
  | .str y _ => decide (y = x)
  | _ => false
section
variable {K : Type} [DecidableEq K] {prog : Program} {w : World} {knd : KeyKind prog w K} {A : Around} {E : Value → Shared → Prop}
theorem vw_loop {Q : Value → Shared → Prop} {it d : Addr} {ep : Nat} {kvs : List (K × Value)} {x : Str} {t : Tok} (hh : A.handled = none) (hne : d ≠ it) (ht : ∀ kv ∈ kvs, ∃ y u, kv.2 = .str y u) : ∀ (n i : Nat) (s : Shared), kvs.length - i = n → s.heap.IsValIter it d i kvs.length ep → s.heap.DictAt knd d kvs ep →
    (∀ h', (∀ b o, b ≠ it → s.heap.get? b = some o → h'.get? b = some o) → Q (.bool (vwHas x (kvs.drop i))) { s with heap := h' }) → codeAny (model prog w) A (.builtin "proto.contains_iter" ⟨[.ref it, .str x t], []⟩) (wants Q E) s := by
  intro n
  induction n with
  | zero =>
    intro i s hn hi hm hq
    refine codeAny_builtin vw_entry ?_
    rw [Around.under_plainId vw_plain _]
    have hnone : kvs[i]? = none := List.getElem?_eq_none (by omega)
    unfold Builtin.«proto.contains_iter»
    show wpAny _ A.in1 (pyNext (.ref it) >>= _) _ _ s
    refine wpAny_bind (wpAny_pyNext_values_end hh hi hm hnone fun h' eb => ?_)
    refine wpAny_bind (wpAny_rule ?_)
    refine wpAny_pure ?_
    have := hq h' (fun b o hb e => eb b o hb e)
    rw [List.drop_eq_nil_of_le (by omega)] at this
    exact this
  | succ n ih =>
    intro i s hn hi hm hq
    refine codeAny_builtin vw_entry ?_
    rw [Around.under_plainId vw_plain _]
    have hlt : i < kvs.length := by omega
    obtain ⟨⟨k, v⟩, hkv⟩ : ∃ p, kvs[i]? = some p := ⟨kvs[i], List.getElem?_eq_getElem hlt⟩
    obtain ⟨y, u, hy⟩ := ht (k, v) (List.mem_of_getElem? hkv)
    have hy : v = .str y u := hy
    subst hy
    have hdrop : kvs.drop i = (k, .str y u) :: kvs.drop (i + 1) := by
      rw [List.drop_eq_getElem_cons hlt]
      rw [List.getElem?_eq_getElem hlt] at hkv
      rw [Option.some.inj hkv]
    unfold Builtin.«proto.contains_iter»
    show wpAny _ A.in1 (pyNext (.ref it) >>= _) _ _ s
    refine wpAny_bind (wpAny_pyNext_values_item hi hm hkv fun h' hi' sb => ?_)
    refine wpAny_bind (wpAny_eqBool_str ?_)
    have keep : ∀ b o, b ≠ it → s.heap.get? b = some o → h'.get? b = some o := fun b o hb e => (sb.2 b hb).trans e
    by_cases e : y = x
    · simp only [e, decide_true, if_true]
      refine wpAny_bind (wpAny_rule ?_)
      refine wpAny_pure ?_
      have := hq h' keep
      rw [hdrop] at this
      simp only [vwHas, List.any_cons, e, decide_true, Bool.true_or] at this
      exact this
    · simp only [e, decide_false, Bool.false_eq_true, if_false]
      refine wpAny_pure ⟨plainId_quiet vw_plain _, ih (i + 1) { s with heap := h' } (by omega) hi' (hm.at' fun o e => keep d o hne e) fun h'' k2 => ?_⟩
      have := hq h'' (fun b o hb e => k2 b o hb (keep b o hb e))
      rw [hdrop] at this
      simp only [vwHas, List.any_cons, e, decide_false, Bool.false_or] at this
      exact this
theorem vw_contains {s : Shared} {Q : Bool → Shared → Prop} {p d : Addr} {ep : Nat} {kvs : List (K × Value)} {x : Str} {t : Tok} (hh : A.handled = none) (hv : s.heap.IsValuesView p d) (hm : s.heap.DictAt knd d kvs ep) (ht : ∀ kv ∈ kvs, ∃ y u, kv.2 = .str y u)
    (hq : ∀ h', (∀ b o, s.heap.get? b = some o → h'.get? b = some o) → Q (vwHas x kvs) { s with heap := h' }) : wpAny (model prog w) A (contains (.ref p) (.str x t)) Q E s := by
  have hT : s.TypeIs (.ref p) "dict_values" := hv.typeIs
  unfold contains
  refine wpAny_holding ?_
  rw [stdlibNamesSay?_of_typeIs hT]
  refine wpAny_bind (wpAny_specialOf hT vw_look ?_)
  show wpAny _ A (if (none == some Value.none) = true then _ else _) Q E s
  rw [if_neg (by simp)]
  simp only [callSpecialUnlessNone?]
  refine wpAny_bind (wpAny_bind (wpAny_specialOf hT vw_look (wpAny_pure ?_)))
  refine wpAny_bind (wpAny_rule ?_)
  refine wpAny_bind (wpAny_tryCatch ?_)
  refine wpAny_pyIter_values hv hm ?_
  have hlt := hm.lt_size
  have hne : d ≠ s.heap.objs.size := Nat.ne_of_lt hlt
  refine wpAny_bind (wpAny_runValue (codeAny_mono (vw_loop (E := E) (kvs := kvs) (x := x) (t := t) (Q := fun v s' => wpAny (model prog w) A (match v with
    | .bool b => pure b
    | _ => unsupported "internal:contains") Q E s') hh hne ht kvs.length 0 _ (by omega) ⟨_, Heap.get?_push_size _ rfl, rfl, rfl⟩ (hm.push _) fun h' k => ?_) fun r s' h => ?_))
  · rw [List.drop_zero]
    exact wpAny_pure (hq h' fun b o e => k b o (Nat.ne_of_lt (Heap.lt_size e)) (Heap.get?_push_of_some _ e))
  · exact h
end
end PySem

namespace L2
open PySem PySem.Spec PyProof.Rows
/-- a view of the values of the dict at d -/
def vwO (p d : Addr) : HO := .ext fun h => h.get? p = some { cls := .type "dict_values", data := .fields #[.ref d] }
theorem vwO_ok {P : Program} {w : World} {H : Hp} {h : Heap} {p d : Addr} (e : h.get? p = some { cls := .type "dict_values", data := .fields #[.ref d] }) : ObjOk P w H h p (vwO p d) := ⟨e, ⟨_, e⟩, fun h1 h2 q k => k _ q⟩
section
variable {X : Cx} {e : Expr} {td : TE} {apos cpos : Pos}
def tVals (td : TE) : TE := fun σ H Q => td σ H fun x H1 => ∃ d kvs, x = .ref d ∧ H1 d = some (.dK kvs) ∧ ∀ p, H1 p = none → Q (.ref p) (upd H1 p (vwO p d))
theorem pe_vals (he : PE X e td) (hbase : attributeBase e "values" X.env (eval e X.env) = eval e X.env := by rfl) (hline : (apos.endLine == cpos.line) = true := by rfl) : PE X (.Call (.Attribute e "values" apos) [] [] cpos) (tVals td) := by
  refine ⟨fun pins s σ H Q I h => ?_⟩
  refine wpAny_Call_method (T := "dict") (id := "dict.values") hbase rfl hline F.plainAttrs_dict F.slot_dict_values F.type_dict_values (thn (he.run pins s σ H _ I h) fun u s1 ⟨x, H1, I1, rx, d, kvs, ex, hd, q⟩ => ?_)
  subst ex
  obtain rfl : u = Value.ref d := rx
  obtain ⟨z, hs, vs, kv, hm⟩ := (show ObjOk X.prog X.w H1 s1.heap d (.dK kvs) from I1.hok d _ hd)
  refine ⟨hm.typeIs, hm.mapOf.noDict, ?_⟩
  show wpAny _ _ (callWith cpos (.builtin "dict.values") [.ref d] [] []) _ X.xe s1
  refine method_meetsIn F.slot_dict_values F.entry_dict_values rfl (PySem.evalArgs_none ⟨rfl, hm.typeIs, F.args_dict_values_1 _, _, meets_dict_values (mixKind X.prog X.w) d hs, ⟨vs, hm⟩, ?_⟩)
  exact ⟨.ref s1.heap.objs.size, _, I1.laid (t' := s1.toks) (fun b o q => Heap.get?_push_of_some _ q) (Nat.le_refl _) (vwO_ok (Heap.get?_push_size _ rfl)), rfl, q _ (I1.hok.fresh (Nat.le_refl _))⟩
def vHas (x : Str) (l : List (Key × V)) : Bool := l.any fun kv => decide (kv.2 = .str x)
abbrev rInV : R2 := fun x y H Q => ∃ z p d kvs, x = .str z ∧ y = .ref p ∧ H p = some (vwO p d) ∧ H d = some (.dK kvs) ∧ (∀ kv ∈ kvs, ∃ s, kv.2 = .str s) ∧ Q (.bl (vHas z kvs)) H
abbrev rNotInV : R2 := fun x y H Q => ∃ z p d kvs, x = .str z ∧ y = .ref p ∧ H p = some (vwO p d) ∧ H d = some (.dK kvs) ∧ (∀ kv ∈ kvs, ∃ s, kv.2 = .str s) ∧ Q (.bl (!vHas z kvs)) H
theorem vw_rel {x : Str} : ∀ {kvs : List (Key × V)} {vs : List (Key × Value)}, KV kvs vs → (∀ kv ∈ kvs, ∃ s, kv.2 = .str s) → (∀ kv ∈ vs, ∃ y u, kv.2 = .str y u) ∧ vwHas x vs = vHas x kvs := by
  intro kvs vs r
  unfold KV at r
  induction r with
  | nil => exact fun _ => ⟨(fun _ h => nomatch h), rfl⟩
  | @cons a b l l' h t ih =>
    intro hs
    obtain ⟨i1, i2⟩ := ih fun kv hk => hs kv (List.mem_cons_of_mem _ hk)
    obtain ⟨k, v⟩ := a
    obtain ⟨k', v'⟩ := b
    obtain ⟨y, hy⟩ := hs (k, v) List.mem_cons_self
    have hy : v = .str y := hy
    subst hy
    obtain ⟨u, hu⟩ : ∃ t, v' = .str y t := h.2
    subst hu
    refine ⟨fun kv hk => ?_, ?_⟩
    · rcases List.mem_cons.mp hk with rfl | hk
      · exact ⟨y, u, rfl⟩
      · exact i1 kv hk
    · unfold vwHas vHas at i2 ⊢
      simp only [List.any_cons, i2]
      congr 1
      by_cases z : y = x
      · simp [z]
      · simp [z]
theorem in_vals (hc : X.calm = true) {pins : List (Addr × Obj)} {s : Shared} {σ : St} {H : Hp} {z : Str} {t : Tok} {p d : Addr} {kvs : List (Key × V)} {Q : Bool → Shared → Prop} (I : Inv X pins σ H s) (hp : H p = some (vwO p d)) (hd : H d = some (.dK kvs)) (hs : ∀ kv ∈ kvs, ∃ s, kv.2 = .str s)
    (hq : ∀ s', Inv X pins σ H s' → Q (vHas z kvs) s') : wpAny (model X.prog X.w) X.A (contains (.ref p) (.str z t)) Q X.xe s := by
  have hv : s.heap.get? p = some { cls := .type "dict_values", data := .fields #[.ref d] } := (show ObjOk X.prog X.w H s.heap p (vwO p d) from I.hok p _ hp).1
  obtain ⟨zz, lo, vs, kv, hm⟩ := (show ObjOk X.prog X.w H s.heap d (.dK kvs) from I.hok d _ hd)
  obtain ⟨ep, hat⟩ := hm.dictAt
  obtain ⟨h1, h2⟩ := vw_rel (x := z) kv hs
  refine vw_contains (I.ok.hd hc) ⟨_, hv, rfl, rfl⟩ hat h1 fun h' k => ?_
  rw [h2]
  exact hq _ (I.kept (t' := s.toks) k)
theorem op_inV (hc : X.calm = true) : OpR X (compareOp .In) rInV := by
  intro pins s σ H x y v u Q I rx ry h
  obtain ⟨z, p, d, kvs, rfl, rfl, hp, hd, hs, q⟩ := h
  obtain ⟨t, rfl⟩ := rx
  obtain rfl : u = Value.ref p := ry
  show wpAny _ _ (contains (.ref p) (.str z t) >>= fun b => pure (Value.bool b)) _ _ s
  exact wpAny_bind (in_vals hc I hp hd hs fun s' I' => wpAny_pure ⟨.bl _, H, I', rfl, q⟩)
theorem op_notInV (hc : X.calm = true) : OpR X (compareOp .NotIn) rNotInV := by
  intro pins s σ H x y v u Q I rx ry h
  obtain ⟨z, p, d, kvs, rfl, rfl, hp, hd, hs, q⟩ := h
  obtain ⟨t, rfl⟩ := rx
  obtain rfl : u = Value.ref p := ry
  show wpAny _ _ (contains (.ref p) (.str z t) >>= fun b => pure (Value.bool (!b))) _ _ s
  exact wpAny_bind (in_vals hc I hp hd hs fun s' I' => wpAny_pure ⟨.bl _, H, I', rfl, q⟩)
end
end L2
namespace Sh
open PySem L2 He
section
variable {X : Cx} {W : We} {a e : Expr} {fa f : EF} {pos apos cpos : Pos}
def allStr : List (Key × D) → Bool
  | [] => true
  | (_, .str _) :: l => allStr l
  | _ => false
def hasVal (x : Str) (l : List (Key × D)) : Bool := l.any fun kv => match kv.2 with
  | .str y => decide (y = x)
  | _ => false
def dInV (neg : Bool) : D → D → Sto → Res D := fun x y st => match x, y with
  | .str z, .loc n => match st[n]? with
    | some (.dict l) => if allStr l = true then .ok (.bl (if neg then !hasVal z l else hasVal z l)) st else .bad
    | _ => .bad
  | _, _ => .bad
@[simp] def fInV (neg : Bool) (fa f : EF) : EF := fun sg st => (fa sg st).bind fun x st1 => (f sg st1).bind fun y st2 => dInV neg x y st2
theorem krel_vals {K : PySem.W.Frag} {mg : Str → Option Value} {r : List Addr} {G : Hp} {x : Str} {l : List (Key × D)} {kvs : List (Key × V)} (h : KRel K mg r G l kvs) : allStr l = true → (∀ kv ∈ kvs, ∃ s, kv.2 = .str s) ∧ vHas x kvs = hasVal x l := by
  induction h with
  | nil => exact fun _ => ⟨(fun _ h => nomatch h), rfl⟩
  | @cons k d v l vs h t ih =>
    intro hs
    cases d with
    | str y =>
      cases h
      obtain ⟨i1, i2⟩ := ih hs
      refine ⟨fun kv hk => ?_, ?_⟩
      · rcases List.mem_cons.mp hk with rfl | hk
        · exact ⟨y, rfl⟩
        · exact i1 kv hk
      · unfold vHas hasVal at i2 ⊢
        simp only [List.any_cons, i2]
        congr 1
        by_cases z : y = x
        · simp [z]
        · simp [z]
    | _ => exact absurd hs (by simp [allStr])
theorem inV_of {neg : Bool} {σ : St} {H : Hp} {Q : VK} {r : R2} (hr : ∀ z p d kvs (H1 : Hp) (Q : VK), H1 p = some (vwO p d) → H1 d = some (.dK kvs) → (∀ kv ∈ kvs, ∃ s, kv.2 = .str s) → Q (.bl (if neg then !vHas z kvs else vHas z kvs)) H1 → r (.str z) (.ref p) H1 Q)
    (h : TOf X.K X.mg W (RD X.K X.mg) (fInV neg fa f) σ H Q) : tOp r (TOf X.K X.mg W (RD X.K X.mg) fa) (tVals (TOf X.K X.mg W (RD X.K X.mg) f)) σ H Q := by
  obtain ⟨m, sg, st, rfl, rm, rs, hp⟩ := h
  refine ⟨m, sg, st, rfl, rm, rs, hp.bindc fun m1 x v st1 e1 r1 q1 hp1 => ⟨m1, sg, st1, rfl, r1, rs.mono e1, hp1.bindc fun m2 y w st2 e2 r2 q2 hp2 => ?_⟩⟩
  unfold dInV at hp2
  split at hp2
  · rename_i z n
    split at hp2
    · rename_i l hl
      split at hp2
      · rename_i hs
        obtain ⟨a, kvs, rfl, k1, k2⟩ := dict_at r2 q2 hl
        cases q1.mono e2
        obtain ⟨v1, v2⟩ := krel_vals (x := z) k2 hs
        refine ⟨a, kvs, rfl, k1, fun p hn => hr z p a kvs _ _ upd_same ?_ v1 ?_⟩
        · rw [upd_ne (ne_of_none k1 hn)]; exact k1
        · rw [v2]
          exact hp2 (m2.lay p (vwO p a)) _ (Ext.lay r2 hn) (r2.lay hn) (.bl _)
      · exact False.elim hp2
    · exact False.elim hp2
  · exact False.elim hp2
theorem se_inV (hc : X.calm = true) (ha : SE X W a fa) (he : SE X W e f) (hm : behindInMarks .In (.Call (.Attribute e "values" apos) [] [] cpos) = false := by rfl) (hbase : attributeBase e "values" X.env (eval e X.env) = eval e X.env := by rfl) (hline : (apos.endLine == cpos.line) = true := by rfl) :
    SE X W (.Compare a [.In] [.Call (.Attribute e "values" apos) [] [] cpos] pos) (fInV false fa f) :=
  pe_weak (pe_cmpR (op_inV hc) ha (pe_vals he hbase hline) hm) fun _ _ _ h => inV_of (neg := false) (fun z p d kvs H1 Q h1 h2 h3 q => ⟨z, p, d, kvs, rfl, rfl, h1, h2, h3, q⟩) h
theorem se_notInV (hc : X.calm = true) (ha : SE X W a fa) (he : SE X W e f) (hm : behindInMarks .NotIn (.Call (.Attribute e "values" apos) [] [] cpos) = false := by rfl) (hbase : attributeBase e "values" X.env (eval e X.env) = eval e X.env := by rfl) (hline : (apos.endLine == cpos.line) = true := by rfl) :
    SE X W (.Compare a [.NotIn] [.Call (.Attribute e "values" apos) [] [] cpos] pos) (fInV true fa f) :=
  pe_weak (pe_cmpR (op_notInV hc) ha (pe_vals he hbase hline) hm) fun _ _ _ h => inV_of (neg := true) (fun z p d kvs H1 Q h1 h2 h3 q => ⟨z, p, d, kvs, rfl, rfl, h1, h2, h3, q⟩) h
/-- as a test -/
theorem sb_ofE {t : TE} (h : PT X e (tTest t)) (i : ∀ σ H Q, TOf X.K X.mg W (RD X.K X.mg) f σ H Q → t σ H Q) : SB X W e (tOfE f) :=
  pt_weak h fun σ H Q ⟨m, sg, st, e, rm, rs, hp⟩ => i σ H _ ⟨m, sg, st, e, rm, rs, hp.bindc fun m1 x v st1 e1 r1 q1 hp1 => by
    split at hp1
    · cases q1; exact ⟨_, rfl, hp1.okc r1 rfl⟩
    · exact False.elim hp1⟩
theorem sb_inV (hc : X.calm = true) (ha : SE X W a fa) (he : SE X W e f) (hm : behindInMarks .In (.Call (.Attribute e "values" apos) [] [] cpos) = false := by rfl) (hbase : attributeBase e "values" X.env (eval e X.env) = eval e X.env := by rfl) (hline : (apos.endLine == cpos.line) = true := by rfl) :
    SB X W (.Compare a [.In] [.Call (.Attribute e "values" apos) [] [] cpos] pos) (tOfE (fInV false fa f)) :=
  sb_ofE (pt_cmpR (op_inV hc) ha (pe_vals he hbase hline) hm) fun _ _ _ h => inV_of (neg := false) (fun z p d kvs H1 Q h1 h2 h3 q => ⟨z, p, d, kvs, rfl, rfl, h1, h2, h3, q⟩) h
theorem sb_notInV (hc : X.calm = true) (ha : SE X W a fa) (he : SE X W e f) (hm : behindInMarks .NotIn (.Call (.Attribute e "values" apos) [] [] cpos) = false := by rfl) (hbase : attributeBase e "values" X.env (eval e X.env) = eval e X.env := by rfl) (hline : (apos.endLine == cpos.line) = true := by rfl) :
    SB X W (.Compare a [.NotIn] [.Call (.Attribute e "values" apos) [] [] cpos] pos) (tOfE (fInV true fa f)) :=
  sb_ofE (pt_cmpR (op_notInV hc) ha (pe_vals he hbase hline) hm) fun _ _ _ h => inV_of (neg := true) (fun z p d kvs H1 Q h1 h2 h3 q => ⟨z, p, d, kvs, rfl, rfl, h1, h2, h3, q⟩) h
end
end Sh
/-! Part ZN: is True, is False of any data; list of a dict -/
namespace Sh
open PySem L2 He
section
variable {X : Cx} {W : We}
abbrev rIsBo : R2 := fun x y H Q => ∃ b, y = .bl b ∧ Q (.bl (decide (x = .bl b))) H
abbrev rNotBo : R2 := fun x y H Q => ∃ b, y = .bl b ∧ Q (.bl (!decide (x = .bl b))) H
theorem op_isBo : OpR X (compareOp .Is) rIsBo := by
  intro pins s σ H x y v u Q I rx ry h
  obtain ⟨b, rfl, q⟩ := h
  cases (show u = Value.bool b from ry)
  cases x with
  | bl a =>
    cases (show v = Value.bool a from rx)
    by_cases e : a = b
    · subst e
      exact wpAny_is_self rfl ⟨.bl true, H, I, rfl, by simpa using q⟩
    · exact wpAny_is_other rfl (fun z => e (Value.bool.inj z)) ⟨.bl false, H, I, rfl, by simpa [e] using q⟩
  | non => cases (show v = Value.none from rx); exact wpAny_pure ⟨.bl false, H, I, rfl, q⟩
  | int i => obtain ⟨t, rfl⟩ := rx; exact wpAny_pure ⟨.bl false, H, I, rfl, q⟩
  | str i => obtain ⟨t, rfl⟩ := rx; exact wpAny_pure ⟨.bl false, H, I, rfl, q⟩
  | byt i => obtain ⟨t, rfl⟩ := rx; exact wpAny_pure ⟨.bl false, H, I, rfl, q⟩
  | flt i => obtain ⟨t, rfl⟩ := rx; exact wpAny_pure ⟨.bl false, H, I, rfl, q⟩
  | ref a => cases (show v = Value.ref a from rx); exact wpAny_pure ⟨.bl false, H, I, rfl, q⟩
  | ty n => cases (show v = Value.type n from rx); exact wpAny_pure ⟨.bl false, H, I, rfl, q⟩
theorem op_notBo : OpR X (compareOp .IsNot) rNotBo := by
  intro pins s σ H x y v u Q I rx ry h
  obtain ⟨b, rfl, q⟩ := h
  cases (show u = Value.bool b from ry)
  cases x with
  | bl a =>
    cases (show v = Value.bool a from rx)
    by_cases e : a = b
    · subst e
      exact wpAny_isNot_self rfl ⟨.bl false, H, I, rfl, by simpa using q⟩
    · exact wpAny_isNot_other rfl (fun z => e (Value.bool.inj z)) ⟨.bl true, H, I, rfl, by simpa [e] using q⟩
  | non => cases (show v = Value.none from rx); exact wpAny_pure ⟨.bl true, H, I, rfl, q⟩
  | int i => obtain ⟨t, rfl⟩ := rx; exact wpAny_pure ⟨.bl true, H, I, rfl, q⟩
  | str i => obtain ⟨t, rfl⟩ := rx; exact wpAny_pure ⟨.bl true, H, I, rfl, q⟩
  | byt i => obtain ⟨t, rfl⟩ := rx; exact wpAny_pure ⟨.bl true, H, I, rfl, q⟩
  | flt i => obtain ⟨t, rfl⟩ := rx; exact wpAny_pure ⟨.bl true, H, I, rfl, q⟩
  | ref a => cases (show v = Value.ref a from rx); exact wpAny_pure ⟨.bl true, H, I, rfl, q⟩
  | ty n => cases (show v = Value.type n from rx); exact wpAny_pure ⟨.bl true, H, I, rfl, q⟩
def isBD : D → Bool → Bool
  | .bl a, b => decide (a = b)
  | _, _ => false
def dIsB : D → D → Sto → Res D
  | x, .bl b, st => .ok (.bl (isBD x b)) st
  | _, _, _ => .bad
def dIsNB : D → D → Sto → Res D
  | x, .bl b, st => .ok (.bl !(isBD x b)) st
  | _, _, _ => .bad
theorem isBD_of {m : Hw} {x : D} {v : V} {b : Bool} (h : Rep X.K X.mg m.r m.g x v) : isBD x b = decide (v = .bl b) := by
  cases h <;> simp [isBD]
theorem fits_isB : Fits2 X W rIsBo dIsB := by
  intro m st σ x y v w Q rm ra rb hp
  unfold dIsB at hp
  split at hp
  · rename_i b
    cases rb
    refine ⟨b, rfl, ?_⟩
    rw [← isBD_of ra]
    exact hp.okc rm (.bl _)
  · exact False.elim hp
theorem fits_notB : Fits2 X W rNotBo dIsNB := by
  intro m st σ x y v w Q rm ra rb hp
  unfold dIsNB at hp
  split at hp
  · rename_i b
    cases rb
    refine ⟨b, rfl, ?_⟩
    rw [← isBD_of ra]
    exact hp.okc rm (.bl _)
  · exact False.elim hp
@[simp] theorem ev_dIsB (x : D) (b : Bool) (st : Sto) : dIsB x (.bl b) st = .ok (.bl (isBD x b)) st := rfl
@[simp] theorem ev_dIsNB (x : D) (b : Bool) (st : Sto) : dIsNB x (.bl b) st = .ok (.bl !(isBD x b)) st := rfl
@[simp] theorem isBD_bl (a b : Bool) : isBD (.bl a) b = decide (a = b) := rfl
@[simp] theorem isBD_non (b : Bool) : isBD .non b = false := rfl
@[simp] theorem isBD_int (i : Int) (b : Bool) : isBD (.int i) b = false := rfl
@[simp] theorem isBD_str (i : Str) (b : Bool) : isBD (.str i) b = false := rfl
@[simp] theorem isBD_ins (c : Nat) (l : List D) (b : Bool) : isBD (.ins c l) b = false := rfl
end
end Sh
/-! Part ZO: sets of ints that are sorted or counted at once; sets of unlike texts that are counted -/
namespace L2
open PySem PySem.Spec PyProof.Rows
/-- a set without members, just made -/
def emO (w : World) : Obj := { cls := .type "set", dict := none, data := .set #[] 0 (.fresh 0 0 (!w.params.followText "set-order")) }
section
variable {P : Program} {w : World} {A : Around} {E : Value → Shared → Prop} {s : Shared}
/-- what comes of set(..) -/
def StR (w : World) (s : Shared) (ns : List Int) : Shared → Prop := fun s₂ => ∃ h' tk c, s₂ = { s with heap := h', toks := tk } ∧ SetR w h' s.heap.objs.size (fun j => decide (j ∈ ns)) c ∧ c ≤ ns.length ∧ ∀ b o, s.heap.get? b = some o → h'.get? b = some o
theorem zl_init {l : Addr} {items : Array Value} (ns : List Int) (hh : A.handled = none) (hl : s.heap.IsList l items) (hit : IntsAre items.toList ns) (hb : ns.length + 1 < scanBound) :
    wpAny (model P w) A.in1 (Builtin.«set.__init__» ⟨[.ref s.heap.objs.size, .ref l], []⟩) (fun fin s' => match fin with | .done f => wants (fun r s₂ => r = .none ∧ StR w s ns s₂) E (.ok f) s' | .again c' => c'.quiet = true ∧ codeAny (model P w) A c' (wants (fun r s₂ => r = .none ∧ StR w s ns s₂) E) s') (fun e s' => wants (fun r s₂ => r = .none ∧ StR w s ns s₂) E (.error e) s')
      { s with heap := s.heap.push (emO w) } := by
  have hisz : items.size = ns.length := by
    have q := IntsAre.length hit
    rwa [Array.length_toList] at q
  have hS : (s.heap.push (emO w)).get? s.heap.objs.size = some (emO w) := Heap.get?_push_size _ rfl
  have hT : Shared.TypeIs { s with heap := s.heap.push (emO w) } (.ref s.heap.objs.size) "set" := ⟨_, hS, rfl⟩
  obtain ⟨ol, hol, hcl, nl, hdl⟩ := hl
  obtain ⟨ocls, odict, odata, oslots⟩ := ol
  simp only at hcl hdl
  subst hcl; subst hdl
  have hol' : (s.heap.push (emO w)).get? l = some { cls := .type "list", dict := odict, data := .seq items nl, slots := oslots } := Heap.get?_push_of_some _ hol
  have hsls := F.sub_list_set
  have hslf := F.sub_list_frozenset
  have hne : (Value.type "list" == Value.type "dict") = false := by decide
  have hl1 : (s.heap.push (emO w)).IsList l items := ⟨_, hol', rfl, nl, rfl⟩
  have hS' : (s.heap.push (emO w)).get? s.heap.objs.size = some { cls := .type "set", dict := none, data := .set #[] 0 (.fresh 0 0 (!w.params.followText "set-order")) } := hS
  unfold Builtin.«set.__init__» noKeywords Builtin.Frozenset.updateFrom
  generalize hPI : pyIter = PI
  wp_walk
  subst hPI
  refine wpAny_pyIter_list hl1 ?_
  refine wpAny_bind (wpAny_runValue ?_)
  have hlS : l < s.heap.objs.size := Heap.lt_size hol
  have hh3 : A.in1.in1.handled = none := by simp [hh]
  have hneI : l ≠ (s.heap.push (emO w)).objs.size := by
    rw [Heap.size_push]; exact Nat.ne_of_lt (Nat.lt_succ_of_lt hlS)
  have hSf : s.heap.objs.size ∉ [(s.heap.push (emO w)).objs.size, l] := by
    rw [Heap.size_push]
    simp only [List.mem_cons, List.not_mem_nil, or_false, not_or]
    exact ⟨Nat.ne_of_lt (Nat.lt_succ_self _), Nat.ne_of_gt hlS⟩
  have hval : ∀ (i : Nat) (v : Value), items[i]? = some v → ∃ k t, ns[i]? = some k ∧ v = .int k t := fun i v hv => by
    have hi : i < ns.length := by rw [← hisz]; exact (Array.getElem?_eq_some_iff.mp hv).1
    obtain ⟨t, e⟩ := PyProof.Rows.IntsAre.int_at hit i v (by rw [Array.getElem?_toList]; exact hv)
    exact ⟨ns[i], t, List.getElem?_eq_getElem hi, by rw [e, List.getD_eq_getElem?_getD, List.getElem?_eq_getElem hi] <;> rfl⟩
  refine set_update_ints ((Walks.list hh3 _ l hneI items).toS) s.heap.objs.size hSf ns hisz hb hval items.size 0 _ (by omega) (Nat.zero_le _) ⟨⟨_, Heap.get?_push_size _ rfl, rfl, rfl⟩, hl1.push _⟩ ⟨0, Nat.le_refl 0, setR_new_at (Heap.get?_push_of_some _ hS)⟩ fun s' c' hm hc' hS2 => ?_
  obtain ⟨h', g2, d', tk', os'⟩ := s'
  have eg : g2 = s.gens := hm.gens
  have ed : d' = s.drawn := hm.drawn
  have eo : os' = s.os := hm.os
  subst eg; subst ed; subst eo
  show wpAny _ _ _ _ _ _
  refine wpAny_pure ?_
  show wpAny _ _ (ret Value.none) _ _ _
  rw [hisz] at hc'
  refine wpAny_pure ⟨rfl, h', tk', c', rfl, hS2, hc', fun b o e => ?_⟩
  have hb0 : b < s.heap.objs.size := Heap.lt_size e
  refine hm.heap b o ?_ (Heap.get?_push_of_some _ (Heap.get?_push_of_some _ e))
  simp only [List.mem_cons, List.not_mem_nil, or_false, not_or]
  exact ⟨Nat.ne_of_lt hb0, by rw [Heap.size_push]; exact Nat.ne_of_lt (Nat.lt_succ_of_lt hb0)⟩
end
end L2
namespace L2
open PySem PySem.Spec PyProof.Rows
section
variable {P : Program} {w : World} {A : Around} {E : Value → Shared → Prop} {s : Shared}
theorem zl_call {l : Addr} {items : Array Value} (ns : List Int) {Q : Value → Shared → Prop} (hh : A.handled = none) (hl : s.heap.IsList l items) (hit : IntsAre items.toList ns) (hb : ns.length + 1 < scanBound)
    (h : ∀ (h' : Heap) (tk c : Nat), SetR w h' s.heap.objs.size (fun j => decide (j ∈ ns)) c → c ≤ ns.length → (∀ b o, s.heap.get? b = some o → h'.get? b = some o) → Q (.ref s.heap.objs.size) { s with heap := h', toks := tk }) :
    wpAny (model P w) A (call (.type "set") [.ref l]) Q E s := by
  obtain ⟨c, tl, hmro⟩ := F.called_set.mro
  have hmade := F.called_set.made; have hsub := F.called_set.sub
  have h1 := F.called_set.notType; have h2 := F.called_set.canCreate
  have hct := F.typeCall_set_1 (.ref l)
  refine wpAny_call (codeAny_of_tree ?_)
  show wpAny _ _ (callAny (.type "set") ⟨[.ref l], []⟩) _ _ s
  refine wpAny_pure ⟨Code.quiet_builtin _ (by decide +kernel), codeAny_builtin F.entry_type_call ?_⟩
  rw [Around.under_plain (weight_type_call_type "set" [.ref l] []) rfl]
  repeat (any_goals (first | assumption | wp_step))
  refine codeAny_mono (code_set_led1 (.ref l) (E := E) (Q₁ := fun obj s₁ => obj = .ref s.heap.objs.size ∧ s₁ = { s with heap := s.heap.push (emO w) }) ⟨rfl, rfl⟩) fun r s₁ hr => ?_
  cases r with
  | error e => exact hr
  | ok fl =>
    cases fl with
    | ret obj =>
      obtain ⟨rfl, rfl⟩ := hr
      have hT : Shared.TypeIs { s with heap := s.heap.push (emO w) } (.ref s.heap.objs.size) "set" := ⟨_, Heap.get?_push_size _ rfl, rfl⟩
      have hli := F.called_set.init.lookup; have hbi := F.called_set.init.bind (.ref s.heap.objs.size)
      repeat (any_goals (first | assumption | wp_step))
      refine codeAny_mono (codeAny_call_builtin (R := wants (fun r s₂ => r = .none ∧ StR w s ns s₂) E) F.called_set.init.plain F.entry_set_init (check_set_init_1 hT (zl_init ns (by simpa using hh) hl hit hb))) fun r₂ s₂ hr₂ => ?_
      cases r₂ with
      | error e => exact hr₂
      | ok fl₂ =>
        cases fl₂ with
        | ret r =>
          obtain ⟨rfl, h', tk, c', rfl, q1, q2, q3⟩ := hr₂
          repeat (any_goals (first | assumption | wp_step))
          exact h _ _ _ q1 q2 q3
        | _ => exact hr₂.elim
    | _ => exact hr.elim
end
end L2

namespace L2
open PySem PySem.Spec PyProof.Rows
def dedI : List Int → List Int
  | [] => []
  | x :: l => if x ∈ l then dedI l else x :: dedI l
theorem mem_dedI {x : Int} : ∀ {l : List Int}, x ∈ dedI l ↔ x ∈ l
  | [] => Iff.rfl
  | y :: l => by
    unfold dedI
    split
    · rename_i h
      rw [mem_dedI, List.mem_cons]
      exact ⟨.inr, fun z => z.elim (fun e => e ▸ h) id⟩
    · rw [List.mem_cons, List.mem_cons, mem_dedI]
theorem nodup_dedI : ∀ l : List Int, (dedI l).Nodup
  | [] => List.nodup_nil
  | y :: l => by
    unfold dedI
    split
    · exact nodup_dedI l
    · rename_i h
      exact List.nodup_cons.mpr ⟨fun z => h (mem_dedI.mp z), nodup_dedI l⟩
theorem dedI_len (l : List Int) : (dedI l).length ≤ l.length := by
  induction l with
  | nil => exact Nat.le_refl _
  | cons y l ih =>
    unfold dedI
    split
    · exact Nat.le_succ_of_le ih
    · exact Nat.succ_le_succ ih
theorem dedI_self : ∀ {l : List Int}, l.Nodup → dedI l = l
  | [], _ => rfl
  | y :: l, h => by
    obtain ⟨h1, h2⟩ := List.nodup_cons.mp h
    unfold dedI
    rw [if_neg h1, dedI_self h2]
theorem setR_count {w : World} {h : Heap} {a : Addr} {ns : List Int} {n : Nat} (R : SetR w h a (fun j => decide (j ∈ ns)) n) : n = (dedI ns).length := by
  obtain ⟨o, es, ep, t, ho, hex, hd, g, nd, hm, hb, hf, hn, hr, hl⟩ := R
  have p : (es.toList.map keyOf).Perm (dedI ns) := (List.perm_ext_iff_of_nodup nd (nodup_dedI ns)).mpr fun k => by
    rw [← hm k, mem_dedI, decide_eq_true_eq]
  have := p.length_eq
  rw [List.length_map, Array.length_toList] at this
  omega
noncomputable def srtI (l : List Int) : List Int := l.mergeSort fun a b => decide (a ≤ b)
theorem srtI_perm (l : List Int) : (srtI l).Perm l := List.mergeSort_perm _ _
theorem srtI_le (l : List Int) : (srtI l).Pairwise (· ≤ ·) := by
  have := List.pairwise_mergeSort (le := fun a b : Int => decide (a ≤ b)) (fun a b c h1 h2 => by simp at *; omega) (fun a b => by simp; omega) l
  exact this.imp fun h => by simpa using h
theorem asc_uniq {l m : List Int} (hl : l.Pairwise (· < ·)) (hm : m.Pairwise (· < ·)) (h : ∀ k, k ∈ l ↔ k ∈ m) : l = m := by
  have n1 : l.Nodup := hl.imp fun h => by omega
  have n2 : m.Nodup := hm.imp fun h => by omega
  have p := (List.perm_ext_iff_of_nodup n1 n2).mpr h
  exact List.Perm.eq_of_pairwise (le := fun a b : Int => a ≤ b) (fun a b _ _ h1 h2 => by omega) (hl.imp fun h => by omega) (hm.imp fun h => by omega) p
theorem srtI_asc {l : List Int} (h : l.Nodup) : (srtI l).Pairwise (· < ·) := lt_of_le_nodup _ (srtI_le l) ((srtI_perm l).nodup_iff.mpr h)
theorem srtI_self {l : List Int} (h : l.Pairwise (· < ·)) : srtI (dedI l) = l := by
  have n1 : l.Nodup := h.imp fun h => by omega
  rw [dedI_self n1]
  exact asc_uniq (srtI_asc n1) h fun k => (srtI_perm l).mem_iff
section
variable {X : Cx}
/-- set(xs) of a list or a tuple of ints -/
theorem cr_setI (hc : X.calm = true) : CallR X (.type "set") (fun vs H Q => ∃ l ns, vs = [V.ref l] ∧ (SqL X.K H l (ns.map V.int) ∨ SqT X.K H l (ns.map V.int)) ∧ ns.length + 1 < 4096 ∧ ∀ p, H p = none → Q (.ref p) (upd H p (SetO X.w p (fun j => decide (j ∈ ns)) (dedI ns).length))) := by
  intro pins s σ H vs us Q I r h
  obtain ⟨l, ns, rfl, hs, hn, q⟩ := h
  rw [Vals.ref1 r]
  have fin : ∀ (h' : Heap) (tk c : Nat), SetR X.w h' s.heap.objs.size (fun j => decide (j ∈ ns)) c → c ≤ ns.length → (∀ b o, s.heap.get? b = some o → h'.get? b = some o) → EP X pins σ Q (.ref s.heap.objs.size) { s with heap := h', toks := tk } := fun h' tk c R hc k => by
    have e := setR_count R
    subst e
    exact ⟨.ref s.heap.objs.size, _, I.laid (t' := tk) k (Nat.le_refl _) (setO_new R), rfl, q _ (I.hok.fresh (Nat.le_refl _))⟩
  rcases hs with hs | hs
  · obtain ⟨its, rv, pl, hz⟩ := I.list hs
    exact zl_call ns (I.ok.hd hc) pl.isList (ints_of_vals (by simpa using rv)) hn fin
  · obtain ⟨its, rv, pt, hz⟩ := I.tuple hs
    exact call_set_tupI ns (I.ok.hd hc) (show s.heap.IsTuple l its.toArray from pt) (ints_of_vals (by simpa using rv)) hn fin
/-- len of a set of ints -/
theorem cr_lenSet : CallR X (.builtin "len") (fun vs H Q => ∃ a S n, vs = [V.ref a] ∧ H a = some (SetO X.w a S n) ∧ Q (.int n) H) := by
  intro pins s σ H vs us Q I r h
  obtain ⟨a, S, n, rfl, ha, q⟩ := h
  rw [Vals.ref1 r]
  obtain ⟨o, es, ep, t, ho, hex, hd, g, nd, hm, hb, hf, hn, hr, hl⟩ := setO_get I ha
  refine call_len_set ho hex hd hf (by unfold scanBound at hb; omega) ?_
  rw [hn]
  exact ⟨.int n, H, I.tok _, ⟨_, rfl⟩, q⟩
open PySem.W PySem.Calls in
/-- sorted of a set of ints -/
theorem cr_sortSet (hc : X.calm = true) (hu : X.A.units + 64 < cLine) : CallR X (.builtin "sorted") (fun vs H Q => ∃ a S n, vs = [V.ref a] ∧ H a = some (SetO X.w a S n) ∧ ∀ (ns : List Int) p, ns.Pairwise (· < ·) → (∀ k, k ∈ ns ↔ S k = true) → H p = none → Q (.ref p) (upd H p (.lst (ns.map V.int)))) := by
  intro pins s σ H vs us Q I r h
  obtain ⟨a, S, n, rfl, ha, q⟩ := h
  rw [Vals.ref1 r]
  obtain ⟨o, es, ep, t, ho, hex, hd, g, nd, hm, hb, hf, hn, hr, hl⟩ := setO_get I ha
  refine Sh.sorted_col (β := Int) (enc := fun i => .int i) (P := fun us s1 => us.Perm (es.toList.map (·.2)) ∧ (∀ b o, s.heap.get? b = some o → s1.heap.get? b = some o) ∧ s.heap.objs.size ≤ s1.heap.objs.size ∧ s1.gens = s.gens ∧ s1.os = s.os) (PyProof.Rows.args_sorted1 _) (fun E' Q' hq => ?_) fun us s1 hP => ?_
  · exact collect_set (A := X.A.in1) (I.ok.hd hc) ⟨o, ho, hex.1, hd⟩ hf hb hr hl fun s1 vs k1 hz g1 o1 pm => hq _ _ ⟨pm, k1, hz, g1, o1⟩
  · obtain ⟨pm, k1, hz, g1, o1⟩ := hP
    have hv : ∀ v ∈ us, ∃ k tk, v = Value.int k tk := fun v hv => by
      obtain ⟨e, he, e2⟩ := List.mem_map.mp (pm.mem_iff.mp hv)
      obtain ⟨k, tk, h1, _⟩ := g e he
      exact ⟨k, tk, e2.symm.trans h1⟩
    have hI := ints_of us hv
    have pk : (us.map Builtin.Re.reRawOf).Perm (es.toList.map keyOf) := by
      have q := pm.map Builtin.Re.reRawOf
      rw [List.map_map] at q
      exact q
    generalize us.map Builtin.Re.reRawOf = bs at hI pk
    have each : ∀ {us : List Value} {bs : List Int}, IntsAre us bs → EachIs (fun (v : Value) (b : Int) => ∃ t, v = .int b t) us bs := by
      intro us bs h
      induction h with
      | nil => exact .nil
      | cons n t _ ih => exact .cons ⟨t, rfl⟩ ih
    have back : ∀ {us : List Value} {bs : List Int}, EachIs (fun (v : Value) (b : Int) => ∃ t, v = .int b t) us bs → Vals (bs.map V.int) us := by
      intro us bs h
      induction h with
      | nil => exact .nil
      | cons h _ ih => exact .cons h ih
    have rd : EachIs (fun v b => ∃ as, PySem.Reads s1.heap v (PyData.int b) as) us bs := (each hI).mono fun v b h => by
      obtain ⟨t, rfl⟩ := h
      exact ⟨[], .int _ _⟩
    have hlen : bs.length = es.size := by have := pk.length_eq; simpa using this
    have hb' : es.size < 4096 := hb
    refine ⟨fun v b => ∃ t, v = .int b t, bs, each hI, rd, AllAlike.of fun _ _ => rfl, Sortable.others fun _ => ⟨by simp, fun _ => by simp⟩, by rw [sizeLine_eq]; omega, fun b _ => ?_, fun h' out ep2 k2 hat hE => ?_⟩
    · show X.A.units + 2 + 0 < cLine
      omega
    · have hle : bs.mergeSort (dataLe false fun i : Int => PyData.int i) = srtI bs := by
        rw [dataLe_int (fun i : Int => i)]; rfl
      rw [hle] at hE
      have nb : bs.Nodup := pk.nodup_iff.mpr nd
      have hn : H s1.heap.objs.size = none := I.hok.fresh hz
      have J : Inv X pins σ (upd H s1.heap.objs.size (.lst ((srtI bs).map V.int))) { s with heap := h', gens := s1.gens, drawn := s1.drawn, toks := s1.toks } := by
        have k : ∀ b u, s.heap.get? b = some u → h'.get? b = some u := fun b u e => k2 b u (k1 b u e)
        have lz : ((srtI bs).map V.int).length ≤ sizeLine := by
          rw [List.length_map, (srtI_perm bs).length_eq, sizeLine_eq]; omega
        exact I.call (ch := []) (Un.laid k hz hn) (I.hok.laid k hz ⟨lz, out, ep2, back hE, hat⟩) (by rw [g1]; exact I.bare) (fun _ z => nomatch z)
      have e : ({ s1 with heap := h' } : Shared) = { s with heap := h', gens := s1.gens, drawn := s1.drawn, toks := s1.toks } := by
        cases s1
        cases s
        cases o1
        rfl
      rw [e]
      exact ⟨.ref s1.heap.objs.size, _, J, rfl, q _ _ (srtI_asc nb) (fun k => by rw [(srtI_perm bs).mem_iff, pk.mem_iff, ← hm k]) hn⟩
end
end L2
/-! Part ZP: the same by values: sorted(set(..)), len(set(..)) -/
namespace L2
open PySem PySem.Spec PyProof.Rows
section
variable {P : Program} {w : World} {A : Around} {E : Value → Shared → Prop} {s : Shared}
theorem setOf_cg {K : Type} [DecidableEq K] {knd : KeyKind P w K} {h : Heap} {a : Addr} {S S' : K → Bool} {n n' : Nat} (hS : h.SetOf knd a S n) (e : ∀ k, S k = S' k) (en : n = n') : h.SetOf knd a S' n' := by
  have : S = S' := funext e
  subst this; subst en; exact hS
theorem setOf_at {K : Type} [DecidableEq K] {knd : KeyKind P w K} {h h' : Heap} {a : Addr} {S : K → Bool} {n : Nat} (hS : h.SetOf knd a S n) (k : ∀ o, h.get? a = some o → h'.get? a = some o) : h'.SetOf knd a S n :=
  let ⟨o, es, ep, t, ho, r⟩ := hS; ⟨o, es, ep, t, k _ ho, r⟩
theorem strAt : ∀ {vs : List Value} {ns : List Str}, StrsAre vs ns → ∀ (i : Nat) (v : Value), vs[i]? = some v → ∃ k t, ns[i]? = some k ∧ v = .str k t
  | _, _, .nil, i, v, h => by simp at h
  | _, _, .cons n t hr, 0, v, h => by simp at h; exact ⟨n, t, rfl, h.symm⟩
  | _, _, .cons n t hr, i + 1, v, h => by
    obtain ⟨k, t', e1, e2⟩ := strAt hr i v (by simpa using h)
    exact ⟨k, t', by simpa using e1, e2⟩
theorem zs_loop {I : Addr} {fp wr : List Addr} {G : Array GenState → Array GenState → Prop} {n : Nat} {Pv : Nat → Value → Prop} {St : Nat → Shared → Prop} {R : Result → Shared → Prop}
    (W : WalksS P w A.in1 I fp wr G n Pv St) (S : Addr) (hSf : S ∉ fp) (xs : List Str) (hn : n = xs.length) (nd : xs.Nodup) (hb : xs.length + 1 < scanBound) (hval : ∀ i v, Pv i v → ∃ k t, xs[i]? = some k ∧ v = .str k t) :
    ∀ (k i : Nat) (s : Shared), n - i = k → i ≤ n → St i s → s.heap.SetOf (PySem.strKind P w) S (fun j => decide (j ∈ xs.take i)) i →
      (∀ s', Moved (S :: wr) G s s' → s'.heap.SetOf (PySem.strKind P w) S (fun j => decide (j ∈ xs)) n → R (.ok (.ret .none)) s') →
      codeAny (model P w) A (.builtin "set.update.loop" ⟨[.ref S, .ref I], []⟩) R s := by
  have hSw : S ∉ wr := fun h => hSf (W.sub _ h)
  have more : ∀ b ∈ wr, b ∈ S :: wr := fun b hb => List.mem_cons_of_mem _ hb
  intro k
  induction k with
  | zero =>
    intro i s hk hi hst hS hR
    obtain rfl : i = n := by omega
    refine codeAny_builtin F.entry_set_update_loop ?_
    rw [Around.under_plainId F.plain_set_update_loop _]
    show wpAny _ A.in1 (pyNext (.ref I) >>= _) _ _ s
    refine wpAny_bind (W.done s _ _ hst fun s' hm => ?_)
    rw [List.take_of_length_le (by omega)] at hS
    exact wpAny_pure (hR s' (hm.mono more) (setOf_at hS fun o e => hm.heap S o hSw e))
  | succ k ih =>
    intro i s hk hi hst hS hR
    have hlt : i < n := by omega
    refine codeAny_builtin F.entry_set_update_loop ?_
    rw [Around.under_plainId F.plain_set_update_loop _]
    show wpAny _ A.in1 (pyNext (.ref I) >>= _) _ _ s
    refine wpAny_bind (W.item i s _ _ hlt hst fun v s' hP hst' hm => ?_)
    obtain ⟨z, t, hz, rfl⟩ := hval i v hP
    have hS' := setOf_at hS fun o e => hm.heap S o hSw e
    show wpAny _ A.in1 (holding [Value.str z t] (setAdd S (.str z t)) >>= _) _ _ s'
    refine wpAny_bind (wpAny_holding ?_)
    unfold setAdd
    refine wpAny_holding (wpAny_bind ((PySem.strKind P w).pyHash (k := z) (strKind_is _ _ _ _) ?_))
    refine wpAny_setAddHashed_of (knd := PySem.strKind P w) (s := { s' with toks := s'.toks + 1 }) (strKind_is _ _ _ _) rfl hS' (by omega) fun h' hsb hS2 => ?_
    have hz' : z ∉ xs.take i := fun hm => by
      obtain ⟨j, hj⟩ := List.mem_iff_getElem?.mp hm
      have hji : j < i := by
        have := (List.getElem?_eq_some_iff.mp hj).1
        simp at this
        omega
      rw [List.getElem?_take_of_lt hji] at hj
      obtain ⟨a1, a2⟩ := List.getElem?_eq_some_iff.mp hj
      obtain ⟨b1, b2⟩ := List.getElem?_eq_some_iff.mp hz
      have := (List.getElem_inj nd).mp (a2.trans b2.symm)
      omega
    have hS3 : h'.SetOf (PySem.strKind P w) S (fun j => decide (j ∈ xs.take (i + 1))) (i + 1) := setOf_cg hS2 (fun j => by
      rw [List.take_add_one, hz]
      simp [List.mem_append]) (by simp [hz'])
    refine wpAny_pure ⟨plainId_quiet F.plain_set_update_loop _, ih (i + 1) _ (by omega) hlt (W.frame _ s' _ _ hst' (Nat.le_succ _) fun b hb o e => ?_) hS3 fun s'' hm'' hS'' => ?_⟩
    · rw [hsb.2 b (fun h : b = S => hSf (by rw [← h]; exact hb))]; exact e
    · refine hR s'' (Moved.trans W.gtrans ((hm.mono more).then_heap (Nat.le_succ _) fun b o hb e => ?_) hm'') hS''
      rw [hsb.2 b (fun h : b = S => hb (by rw [h]; exact List.mem_cons_self))]; exact e
def StS (P : Program) (w : World) (s : Shared) (xs : List Str) : Shared → Prop := fun s₂ => ∃ h' tk, s₂ = { s with heap := h', toks := tk } ∧ h'.SetOf (PySem.strKind P w) s.heap.objs.size (fun j => decide (j ∈ xs)) xs.length ∧ ∀ b o, s.heap.get? b = some o → h'.get? b = some o
theorem zs_init {l : Addr} {items : Array Value} (xs : List Str) (hh : A.handled = none) (hl : s.heap.IsList l items) (hit : StrsAre items.toList xs) (nd : xs.Nodup) (hb : xs.length + 1 < scanBound) :
    wpAny (model P w) A.in1 (Builtin.«set.__init__» ⟨[.ref s.heap.objs.size, .ref l], []⟩) (fun fin s' => match fin with | .done f => wants (fun r s₂ => r = .none ∧ StS P w s xs s₂) E (.ok f) s' | .again c' => c'.quiet = true ∧ codeAny (model P w) A c' (wants (fun r s₂ => r = .none ∧ StS P w s xs s₂) E) s') (fun e s' => wants (fun r s₂ => r = .none ∧ StS P w s xs s₂) E (.error e) s')
      { s with heap := s.heap.push (emO w) } := by
  have hisz : items.size = xs.length := by
    have q := StrsAre.len_eq hit
    rw [Array.length_toList] at q
    omega
  have hS : (s.heap.push (emO w)).get? s.heap.objs.size = some (emO w) := Heap.get?_push_size _ rfl
  have hT : Shared.TypeIs { s with heap := s.heap.push (emO w) } (.ref s.heap.objs.size) "set" := ⟨_, hS, rfl⟩
  obtain ⟨ol, hol, hcl, nl, hdl⟩ := hl
  obtain ⟨ocls, odict, odata, oslots⟩ := ol
  simp only at hcl hdl
  subst hcl; subst hdl
  have hol' : (s.heap.push (emO w)).get? l = some { cls := .type "list", dict := odict, data := .seq items nl, slots := oslots } := Heap.get?_push_of_some _ hol
  have hsls := F.sub_list_set
  have hslf := F.sub_list_frozenset
  have hne : (Value.type "list" == Value.type "dict") = false := by decide
  have hl1 : (s.heap.push (emO w)).IsList l items := ⟨_, hol', rfl, nl, rfl⟩
  have hS' : (s.heap.push (emO w)).get? s.heap.objs.size = some { cls := .type "set", dict := none, data := .set #[] 0 (.fresh 0 0 (!w.params.followText "set-order")) } := hS
  unfold Builtin.«set.__init__» noKeywords Builtin.Frozenset.updateFrom
  generalize hPI : pyIter = PI
  wp_walk
  subst hPI
  refine wpAny_pyIter_list hl1 ?_
  refine wpAny_bind (wpAny_runValue ?_)
  have hlS : l < s.heap.objs.size := Heap.lt_size hol
  have hh3 : A.in1.in1.handled = none := by simp [hh]
  have hneI : l ≠ (s.heap.push (emO w)).objs.size := by
    rw [Heap.size_push]; exact Nat.ne_of_lt (Nat.lt_succ_of_lt hlS)
  have hSf : s.heap.objs.size ∉ [(s.heap.push (emO w)).objs.size, l] := by
    rw [Heap.size_push]
    simp only [List.mem_cons, List.not_mem_nil, or_false, not_or]
    exact ⟨Nat.ne_of_lt (Nat.lt_succ_self _), Nat.ne_of_gt hlS⟩
  have hval : ∀ (i : Nat) (v : Value), items[i]? = some v → ∃ k t, xs[i]? = some k ∧ v = .str k t := fun i v hv => strAt hit i v (by rw [Array.getElem?_toList]; exact hv)
  refine zs_loop ((Walks.list hh3 _ l hneI items).toS) s.heap.objs.size hSf xs hisz nd hb hval items.size 0 _ (by omega) (Nat.zero_le _) ⟨⟨_, Heap.get?_push_size _ rfl, rfl, rfl⟩, hl1.push _⟩
    (setOf_cg ((setObjOf_fresh (knd := PySem.strKind P w) (!w.params.followText "set-order")).setOf (Heap.get?_push_of_some _ hS) (by unfold scanBound; omega)) (fun _ => by simp) rfl) fun s' hm hS2 => ?_
  obtain ⟨h', g2, d', tk', os'⟩ := s'
  have eg : g2 = s.gens := hm.gens
  have ed : d' = s.drawn := hm.drawn
  have eo : os' = s.os := hm.os
  subst eg; subst ed; subst eo
  show wpAny _ _ _ _ _ _
  refine wpAny_pure ?_
  show wpAny _ _ (ret Value.none) _ _ _
  rw [hisz] at hS2
  refine wpAny_pure ⟨rfl, h', tk', rfl, hS2, fun b o e => ?_⟩
  have hb0 : b < s.heap.objs.size := Heap.lt_size e
  refine hm.heap b o ?_ (Heap.get?_push_of_some _ (Heap.get?_push_of_some _ e))
  simp only [List.mem_cons, List.not_mem_nil, or_false, not_or]
  exact ⟨Nat.ne_of_lt hb0, by rw [Heap.size_push]; exact Nat.ne_of_lt (Nat.lt_succ_of_lt hb0)⟩
theorem zs_call {l : Addr} {items : Array Value} (ns : List Str) {Q : Value → Shared → Prop} (hh : A.handled = none) (hl : s.heap.IsList l items) (hit : StrsAre items.toList ns) (nd : ns.Nodup) (hb : ns.length + 1 < scanBound)
    (h : ∀ (h' : Heap) (tk : Nat), h'.SetOf (PySem.strKind P w) s.heap.objs.size (fun j => decide (j ∈ ns)) ns.length → (∀ b o, s.heap.get? b = some o → h'.get? b = some o) → Q (.ref s.heap.objs.size) { s with heap := h', toks := tk }) :
    wpAny (model P w) A (call (.type "set") [.ref l]) Q E s := by
  obtain ⟨c, tl, hmro⟩ := F.called_set.mro
  have hmade := F.called_set.made; have hsub := F.called_set.sub
  have h1 := F.called_set.notType; have h2 := F.called_set.canCreate
  have hct := F.typeCall_set_1 (.ref l)
  refine wpAny_call (codeAny_of_tree ?_)
  show wpAny _ _ (callAny (.type "set") ⟨[.ref l], []⟩) _ _ s
  refine wpAny_pure ⟨Code.quiet_builtin _ (by decide +kernel), codeAny_builtin F.entry_type_call ?_⟩
  rw [Around.under_plain (weight_type_call_type "set" [.ref l] []) rfl]
  repeat (any_goals (first | assumption | wp_step))
  refine codeAny_mono (code_set_led1 (.ref l) (E := E) (Q₁ := fun obj s₁ => obj = .ref s.heap.objs.size ∧ s₁ = { s with heap := s.heap.push (emO w) }) ⟨rfl, rfl⟩) fun r s₁ hr => ?_
  cases r with
  | error e => exact hr
  | ok fl =>
    cases fl with
    | ret obj =>
      obtain ⟨rfl, rfl⟩ := hr
      have hT : Shared.TypeIs { s with heap := s.heap.push (emO w) } (.ref s.heap.objs.size) "set" := ⟨_, Heap.get?_push_size _ rfl, rfl⟩
      have hli := F.called_set.init.lookup; have hbi := F.called_set.init.bind (.ref s.heap.objs.size)
      repeat (any_goals (first | assumption | wp_step))
      refine codeAny_mono (codeAny_call_builtin (R := wants (fun r s₂ => r = .none ∧ StS P w s ns s₂) E) F.called_set.init.plain F.entry_set_init (check_set_init_1 hT (zs_init ns (by simpa using hh) hl hit nd hb))) fun r₂ s₂ hr₂ => ?_
      cases r₂ with
      | error e => exact hr₂
      | ok fl₂ =>
        cases fl₂ with
        | ret r =>
          obtain ⟨rfl, h', tk, rfl, q1, q2⟩ := hr₂
          repeat (any_goals (first | assumption | wp_step))
          exact h _ _ q1 q2
        | _ => exact hr₂.elim
    | _ => exact hr.elim
end
/-- a set of n texts at p -/
def SeSO (P : Program) (w : World) (p : Addr) (n : Nat) : HO := .ext fun h => ∃ S, h.SetOf (PySem.strKind P w) p S n
section
variable {X : Cx}
theorem strsOfVals : ∀ {xs : List Str} {us : List Value}, Vals (xs.map V.str) us → StrsAre us xs
  | [], _, .nil => .nil
  | _ :: _, _, .cons ⟨t, e⟩ r => by subst e; exact .cons _ t (strsOfVals r)
theorem cr_setS (hc : X.calm = true) : CallR X (.type "set") (fun vs H Q => ∃ (l : Addr) (xs : List Str), vs = [V.ref l] ∧ SqL X.K H l (xs.map V.str) ∧ xs.Nodup ∧ xs.length + 1 < 4096 ∧ ∀ p, H p = none → Q (.ref p) (upd H p (SeSO X.prog X.w p xs.length))) := by
  intro pins s σ H vs us Q I r h
  obtain ⟨l, xs, rfl, hs, nd, hn, q⟩ := h
  rw [Vals.ref1 r]
  obtain ⟨its, rv, pl, hz⟩ := I.list hs
  refine zs_call xs (I.ok.hd hc) pl.isList (strsOfVals (by simpa using rv)) nd hn fun h' tk R k => ?_
  obtain ⟨o, es, ep, t, ho, rest⟩ := id R
  exact ⟨.ref s.heap.objs.size, _, I.laid (t' := tk) k (Nat.le_refl _) (show ObjOk X.prog X.w _ h' _ (SeSO X.prog X.w s.heap.objs.size xs.length) from ⟨⟨_, R⟩, ⟨o, ho⟩, fun h1 h2 ⟨S, z⟩ kk => ⟨S, setOf_at z kk⟩⟩), rfl, q _ (I.hok.fresh (Nat.le_refl _))⟩
theorem cr_lenSetS : CallR X (.builtin "len") (fun vs H Q => ∃ a n, vs = [V.ref a] ∧ H a = some (SeSO X.prog X.w a n) ∧ Q (.int n) H) := by
  intro pins s σ H vs us Q I r h
  obtain ⟨a, n, rfl, ha, q⟩ := h
  rw [Vals.ref1 r]
  obtain ⟨S, o, es, ep, t, ho, hex, hd, g, hm, hb, hf, hn⟩ := (show ObjOk X.prog X.w H s.heap a (SeSO X.prog X.w a n) from I.hok a _ ha).1
  refine call_len_set ho hex hd hf (by unfold scanBound at hb; omega) ?_
  rw [hn]
  exact ⟨.int n, H, I.tok _, ⟨_, rfl⟩, q⟩
end
end L2
namespace Sh
open PySem L2 He
section
variable {X : Cx} {W : We} {e : Expr} {f : EF} {pos p p2 pos2 : Pos}
def intsD : List D → Option (List Int)
  | [] => some []
  | .int i :: l => (intsD l).map (i :: ·)
  | _ => none
def textsD : List D → Option (List Str)
  | [] => some []
  | .str i :: l => (textsD l).map (i :: ·)
  | _ => none
@[simp] theorem intsD_map (l : List Int) : intsD (l.map D.int) = some l := by
  induction l with
  | nil => rfl
  | cons i l ih => rw [List.map_cons]; unfold intsD; rw [ih]; rfl
@[simp] theorem textsD_map (l : List Str) : textsD (l.map D.str) = some l := by
  induction l with
  | nil => rfl
  | cons i l ih => rw [List.map_cons]; unfold textsD; rw [ih]; rfl
theorem intsD_some : ∀ {l : List D} {ns : List Int}, intsD l = some ns → l = ns.map D.int
  | [], ns, h => by cases (Option.some.inj h : [] = ns); rfl
  | x :: l, ns, h => by
    cases x with
    | int i =>
      unfold intsD at h
      obtain ⟨r, hr, rfl⟩ := Option.map_eq_some_iff.mp h
      rw [List.map_cons, ← intsD_some hr]
    | _ => exact nomatch h
theorem textsD_some : ∀ {l : List D} {ns : List Str}, textsD l = some ns → l = ns.map D.str
  | [], ns, h => by cases (Option.some.inj h : [] = ns); rfl
  | x :: l, ns, h => by
    cases x with
    | str i =>
      unfold textsD at h
      obtain ⟨r, hr, rfl⟩ := Option.map_eq_some_iff.mp h
      rw [List.map_cons, ← textsD_some hr]
    | _ => exact nomatch h
theorem reps_int_vals {K : PySem.W.Frag} {mg : Str → Option Value} {r : List Addr} {G : Hp} : ∀ {ns : List Int} {vs : List V}, Reps K mg r G (ns.map D.int) vs → vs = ns.map V.int
  | [], _, .nil => rfl
  | _ :: ns, _, .cons (.int _) t => by rw [reps_int_vals t]; rfl
theorem reps_str_vals {K : PySem.W.Frag} {mg : Str → Option Value} {r : List Addr} {G : Hp} : ∀ {ns : List Str} {vs : List V}, Reps K mg r G (ns.map D.str) vs → vs = ns.map V.str
  | [], _, .nil => rfl
  | _ :: ns, _, .cons (.str _) t => by rw [reps_str_vals t]; rfl
noncomputable def kSortSet (x : D) (st : Sto) : Res D := match (itemsOf x st).bind intsD with
  | some ns => if ns.length < 4095 then .ok (.lst ((srtI (dedI ns)).map D.int)) st else .bad
  | none => .bad
def kLenSet (x : D) (st : Sto) : Res D := match (itemsOf x st).bind intsD with
  | some ns => if ns.length < 4095 then .ok (.int (dedI ns).length) st else .bad
  | none => .bad
def kLenSetS (x : D) (st : Sto) : Res D := match (lstOf x st).bind textsD with
  | some ns => if ns.Nodup ∧ ns.length < 4095 then .ok (.int ns.length) st else .bad
  | none => .bad
@[simp] def fUn1 (k : D → Sto → Res D) (f : EF) : EF := fun sg st => (f sg st).bind fun x st1 => k x st1
theorem se_sortSet (hc : X.calm = true) (hu : X.A.units + 64 < cLine) (hg : Gl X "sorted") (hm : X.mg "sorted" = none) (hg2 : Gl X "set") (hm2 : X.mg "set" = none) (he : SE X W e f) (hs : starEach [e] X.env = (false, eval e X.env) :: starEach [] X.env := by rfl)
    (hs2 : starEach [.Call (.Name "set" p2) [e] [] pos2] X.env = (false, eval (.Call (.Name "set" p2) [e] [] pos2) X.env) :: starEach [] X.env := by rfl) : SE X W (.Call (.Name "sorted" p) [.Call (.Name "set" p2) [e] [] pos2] [] pos) (fUn1 kSortSet f) :=
  pe_weak (pe_callB (cr_sortSet hc hu) hg hm (by decide +kernel) (pa_cons (pe_callTy (cr_setI hc) hg2 hm2 (by decide +kernel) (pa_cons he pa_nil hs) (by decide) (by decide) hs rfl) pa_nil hs2) (by decide) (by decide) hs2 rfl) fun σ H Q ⟨m, sg, st, em, rm, rs, hp⟩ => by
    subst em
    refine ⟨m, sg, st, rfl, rm, rs, hp.bindc fun m1 x v st1 e1 r1 q1 hp1 => ?_⟩
    unfold kSortSet at hp1
    split at hp1
    · rename_i ns h
      obtain ⟨l, hl, hn⟩ := Option.bind_eq_some_iff.mp h
      obtain ⟨q, vs, rfl, k1, k2⟩ := items_of r1 q1 hl
      rw [intsD_some hn] at k2
      rw [reps_int_vals k2] at k1
      split at hp1
      · rename_i hz
        refine ⟨q, ns, rfl, k1, by omega, fun p0 hp0 => ⟨p0, _, _, rfl, upd_same, fun ms d ha hmem hd => ?_⟩⟩
        have em : ms = srtI (dedI ns) := asc_uniq ha (srtI_asc (nodup_dedI ns)) fun k => by rw [hmem, (srtI_perm _).mem_iff, mem_dedI, decide_eq_true_eq]
        rw [em]
        have e2 := Ext.lay (o := SetO X.w p0 (fun j => decide (j ∈ ns)) (dedI ns).length) r1 hp0
        have r2 := r1.lay (o := SetO X.w p0 (fun j => decide (j ∈ ns)) (dedI ns).length) hp0
        have := (Post.mono hp1 e2).lay (α := D) (R' := RD X.K X.mg) (o := .lst ((srtI (dedI ns)).map V.int)) r2 (fun q hq => .lst upd_same (reps_ints (X := X) (m := (m1.lay p0 _).lay q _) (srtI (dedI ns)))) d hd
        exact this
      · exact False.elim hp1
    · exact False.elim hp1
theorem lenSet_of {ho : Addr → HO} {σ : St} {Q : VK} {m1 : Hw} {st1 : Sto} {n : Nat} (r1 : Rel X.K X.mg m1 st1) (hp1 : Post X.K X.mg W.w m1 σ (RD X.K X.mg) Q (.ok (.int n) st1)) {p0 : Addr} (hp0 : m1.h p0 = none) : Q (.int n) (upd m1.h p0 (ho p0)) :=
  hp1 (m1.lay p0 (ho p0)) _ (Ext.lay r1 hp0) (r1.lay hp0) (.int _)
theorem se_lenSet (hc : X.calm = true) (hg : Gl X "len") (hm : X.mg "len" = none) (hg2 : Gl X "set") (hm2 : X.mg "set" = none) (he : SE X W e f) (hs : starEach [e] X.env = (false, eval e X.env) :: starEach [] X.env := by rfl)
    (hs2 : starEach [.Call (.Name "set" p2) [e] [] pos2] X.env = (false, eval (.Call (.Name "set" p2) [e] [] pos2) X.env) :: starEach [] X.env := by rfl) : SE X W (.Call (.Name "len" p) [.Call (.Name "set" p2) [e] [] pos2] [] pos) (fUn1 kLenSet f) :=
  pe_weak (pe_callB cr_lenSet hg hm (by decide +kernel) (pa_cons (pe_callTy (cr_setI hc) hg2 hm2 (by decide +kernel) (pa_cons he pa_nil hs) (by decide) (by decide) hs rfl) pa_nil hs2) (by decide) (by decide) hs2 rfl) fun σ H Q ⟨m, sg, st, em, rm, rs, hp⟩ => by
    subst em
    refine ⟨m, sg, st, rfl, rm, rs, hp.bindc fun m1 x v st1 e1 r1 q1 hp1 => ?_⟩
    unfold kLenSet at hp1
    split at hp1
    · rename_i ns h
      obtain ⟨l, hl, hn⟩ := Option.bind_eq_some_iff.mp h
      obtain ⟨q, vs, rfl, k1, k2⟩ := items_of r1 q1 hl
      rw [intsD_some hn] at k2
      rw [reps_int_vals k2] at k1
      split at hp1
      · rename_i hz
        exact ⟨q, ns, rfl, k1, by omega, fun p0 hp0 => ⟨p0, _, _, rfl, upd_same, lenSet_of (ho := fun p0 => SetO X.w p0 (fun j => decide (j ∈ ns)) (dedI ns).length) r1 hp1 hp0⟩⟩
      · exact False.elim hp1
    · exact False.elim hp1
theorem se_lenSetS (hc : X.calm = true) (hg : Gl X "len") (hm : X.mg "len" = none) (hg2 : Gl X "set") (hm2 : X.mg "set" = none) (he : SE X W e f) (hs : starEach [e] X.env = (false, eval e X.env) :: starEach [] X.env := by rfl)
    (hs2 : starEach [.Call (.Name "set" p2) [e] [] pos2] X.env = (false, eval (.Call (.Name "set" p2) [e] [] pos2) X.env) :: starEach [] X.env := by rfl) : SE X W (.Call (.Name "len" p) [.Call (.Name "set" p2) [e] [] pos2] [] pos) (fUn1 kLenSetS f) :=
  pe_weak (pe_callB cr_lenSetS hg hm (by decide +kernel) (pa_cons (pe_callTy (cr_setS hc) hg2 hm2 (by decide +kernel) (pa_cons he pa_nil hs) (by decide) (by decide) hs rfl) pa_nil hs2) (by decide) (by decide) hs2 rfl) fun σ H Q ⟨m, sg, st, em, rm, rs, hp⟩ => by
    subst em
    refine ⟨m, sg, st, rfl, rm, rs, hp.bindc fun m1 x v st1 e1 r1 q1 hp1 => ?_⟩
    unfold kLenSetS at hp1
    split at hp1
    · rename_i ns h
      obtain ⟨l, hl, hn⟩ := Option.bind_eq_some_iff.mp h
      obtain ⟨q, vs, rfl, k1, k2⟩ := lst_of r1 q1 hl
      rw [textsD_some hn] at k2
      rw [reps_str_vals k2] at k1
      split at hp1
      · rename_i hz
        exact ⟨q, ns, rfl, k1, hz.1, by omega, fun p0 hp0 => ⟨p0, _, rfl, upd_same, lenSet_of (ho := fun p0 => SeSO X.prog X.w p0 ns.length) r1 hp1 hp0⟩⟩
      · exact False.elim hp1
    · exact False.elim hp1
end
end Sh
/-! Part ZQ: list(d.values()) -/
namespace L2
open PySem PySem.Spec PyProof.Rows
section
variable {X : Cx}
theorem cr_listVals (hc : X.calm = true) : CallR X (.type "list") (fun xs H Q => ∃ p d kvs, xs = [V.ref p] ∧ H p = some (vwO p d) ∧ H d = some (.dK kvs) ∧ ∀ q, H q = none → Q (.ref q) (upd H q (.lst (kvs.map (·.2))))) := by
  intro pins s σ H xs us Q I r h
  obtain ⟨p, d, kvs, rfl, hp, hd, q⟩ := h
  rw [Vals.ref1 r]
  have hv : s.heap.get? p = some { cls := .type "dict_values", data := .fields #[.ref d] } := (show ObjOk X.prog X.w H s.heap p (vwO p d) from I.hok p _ hp).1
  obtain ⟨z, lo, vs, kv, hm⟩ := (show ObjOk X.prog X.w H s.heap d (.dK kvs) from I.hok d _ hd)
  obtain ⟨ep, hat⟩ := hm.dictAt
  have hl : kvs.length = vs.length := Paired.length kv
  refine PySem.W.kdl_call (PySem.W.kdl_values (knd := mixKind X.prog X.w) (kvs := vs) (ep := ep)) (I.ok.hd hc) ⟨⟨_, hv, rfl, rfl⟩, hat⟩ (by rw [← hl]; exact z) fun h' tk acc' c' keep hS hacc => ?_
  refine ⟨.ref s.heap.objs.size, upd H s.heap.objs.size (.lst (kvs.map (·.2))), I.laid keep (Nat.le_refl _) (show ObjOk X.prog X.w _ _ _ (.lst (kvs.map (·.2))) from ⟨by rw [List.length_map]; exact z, acc'.toList, c', ?_, by rw [Array.toArray_toList]; exact hS⟩), rfl, q _ (I.hok.fresh (Nat.le_refl _))⟩
  have hln : acc'.toList.length = acc'.size := by simp
  refine vals_of_at (by rw [List.length_map, hln, hacc.1, hl]) fun j x u h1 h2 => ?_
  obtain ⟨k, hk⟩ := hacc.2 j u (by rw [← Array.getElem?_toList]; exact h2)
  rw [List.getElem?_map] at h1
  obtain ⟨⟨k', x'⟩, hkx, rfl⟩ := Option.map_eq_some_iff.mp h1
  obtain ⟨u', hu', ru⟩ := kv_get kv hkx
  rw [hk] at hu'
  cases hu'
  exact ru
end
end L2
namespace Sh
open PySem L2 He
section
variable {X : Cx} {W : We} {e : Expr} {f : EF} {pos apos cpos p : Pos}
def kListV (x : D) (st : Sto) : Res D := match x with
  | .loc n => match st[n]? with
    | some (.dict l) => if l.length ≤ 16777216 then .ok (.lst (l.map (·.2))) st else .bad
    | _ => .bad
  | _ => .bad
theorem se_listVals (hc : X.calm = true) (hg : Gl X "list") (hm : X.mg "list" = none) (he : SE X W e f) (hbase : attributeBase e "values" X.env (eval e X.env) = eval e X.env := by rfl) (hline : (apos.endLine == cpos.line) = true := by rfl)
    (hs : starEach [.Call (.Attribute e "values" apos) [] [] cpos] X.env = (false, eval (.Call (.Attribute e "values" apos) [] [] cpos) X.env) :: starEach [] X.env := by rfl) : SE X W (.Call (.Name "list" p) [.Call (.Attribute e "values" apos) [] [] cpos] [] pos) (fUn1 kListV f) :=
  pe_weak (pe_callTy (cr_listVals hc) hg hm (by decide +kernel) (pa_cons (pe_vals he hbase hline) pa_nil hs) (by decide) (by decide) hs rfl) fun σ H Q ⟨m, sg, st, em, rm, rs, hp⟩ => by
    subst em
    refine ⟨m, sg, st, rfl, rm, rs, hp.bindc fun m1 x v st1 e1 r1 q1 hp1 => ?_⟩
    unfold kListV at hp1
    split at hp1
    · rename_i n
      split at hp1
      · rename_i l hl
        split at hp1
        · rename_i hz
          obtain ⟨a, kvs, rfl, k1, k2⟩ := dict_at r1 q1 hl
          refine ⟨a, kvs, rfl, k1, fun p0 hp0 => ⟨p0, a, kvs, rfl, upd_same, by rw [upd_ne (ne_of_none k1 hp0)]; exact k1, fun q hq => ?_⟩⟩
          have e2 := Ext.lay (o := vwO p0 a) r1 hp0
          have r2 := r1.lay (o := vwO p0 a) hp0
          exact (Post.mono hp1 e2).lay (α := D) (R' := RD X.K X.mg) (o := .lst (kvs.map (·.2))) r2 (fun q hq => .lst upd_same ((k2.to.2.mono e2).mono (Ext.lay r2 hq))) q hq
        · exact False.elim hp1
      · exact False.elim hp1
    · exact False.elim hp1
@[simp] theorem kListV_at {n : Nat} {st : Sto} {l : List (Key × D)} (h : st[n]? = some (.dict l)) (hl : l.length ≤ 16777216) : kListV (.loc n) st = .ok (.lst (l.map (·.2))) st := by
  unfold kListV
  simp only [h, if_pos hl]
end
end Sh
/-! Part ZR: properties; dict(d); pop and extend of live lists; live objects made with keywords; attributes as targets of a tuple -/
namespace Sh
open PySem L2 He
/-! the getter of a property, by the class and the name -/
def fAdP (K : PySem.W.Frag) (p : Str × Option Str) : Addr := match PySem.W.recIn K (fAd K p) "property" with
  | some (.ref g :: _) => g
  | _ => 0
def fnWP (K : PySem.W.Frag) (p : Str × Option Str) : FnW := match K.lookup (fAdP K p) with
  | some ⟨_, _, .func fd, _⟩ => some (fd.name, fd.qualname, fd.params, fd.body, fd.scope, fd.globals, fd.closure, fd.builtins)
  | _ => none
def okP (K : PySem.W.Frag) (d : DefD) : Bool := PySem.W.keepIn K (.ref (fAdP K d.at_)) && (match K.lookup (fAdP K d.at_) with
  | some ⟨_, _, .func fd, _⟩ => PySem.W.codeIn K fd.code d.qual && (dflB K fd.defaults (d.dvs K) && kwdB K fd.kwdefaults (d.kws K))
  | _ => false)
theorem funDP {K : PySem.W.Frag} {d : DefD} (e : fnWP K d.at_ = d.val) (c : okP K d = true) : ∃ fd, FunD K d.name d.qual d.params d.body d.scope (d.dvs K) (d.kws K) (fAdP K d.at_) fd := by
  obtain ⟨kp, c2⟩ := Bool.and_eq_true_iff.mp c
  unfold fnWP at e
  cases q : K.lookup (fAdP K d.at_) with
  | none => rw [q] at c2; cases c2
  | some o =>
    obtain ⟨oc, od, dt, osl⟩ := o
    rw [q] at c2 e
    cases dt with
    | func fd =>
      obtain ⟨n1, n2, n3, n4, n5, n6, n7, n8, n9, n10, n11, n12, n13, n14, n15⟩ := fd
      have e2 : (some (n1, n2, n3, n4, n5, n6, n7, n15) : FnW) = some (d.name, d.qual, d.params, .stmts d.body, d.scope, mainGlobals, [], builtinsNs) := e
      simp only [Option.some.injEq, Prod.mk.injEq] at e2
      obtain ⟨h1, h2, h3, h4, h5, h6, h7, h8⟩ := e2
      subst h1 h2 h3 h4 h5 h6 h7 h8
      obtain ⟨k1, k2⟩ := Bool.and_eq_true_iff.mp (show (PySem.W.codeIn K n13 d.qual && (dflB K n8 (d.dvs K) && kwdB K n9 (d.kws K))) = true from c2)
      obtain ⟨k3, k4⟩ := Bool.and_eq_true_iff.mp k2
      exact ⟨_, ⟨oc, od, n8, n9, n10, n11, n12, n13, n14, osl, rfl, q, k1, dflB_ok k3, kwdB_ok k4⟩, kp⟩
    | _ => cases c2
/-! the head's facts, the properties' getters among them -/
def obsQ (fx : List (PySem.W.Frag → Bool)) (fn fp : List DefD) (K : PySem.W.Frag) : AlS := ((fx.all fun f => f K) && ((fn.all fun d => d.ok K) && fp.all fun d => okP K d), (fn.map fun d => fnW K d.at_) ++ fp.map fun d => fnWP K d.at_)
def valQ (fn fp : List DefD) : AlS := (true, fn.map DefD.val ++ fp.map DefD.val)
def obsQG (n : Nat) (fx : List (PySem.W.Frag → Bool)) (fn fp : List DefD) (g : Addr → Option Obj) : AlS := obsQ fx fn fp (frG g (asD g n))
def hookQ (n : Nat) (fx : List (PySem.W.Frag → Bool)) (fn fp : List DefD) : PySem.W.Hook where
  α := AlS
  obs := fun s => obsQG n fx fn fp s.heap.get?
  val := fun _ => valQ fn fp
  says := fun _ h => ∃ K : PySem.W.Frag, K.In h ∧ obsQ fx fn fp K = valQ fn fp
  of := fun _ _ e => ⟨_, frG_in, e⟩
  keeps := fun _ _ _ ⟨K, hK, c⟩ k => ⟨K, PySem.W.Frag.In.keeps hK k, c⟩
theorem obsQG_eq {n : Nat} {fx : List (PySem.W.Frag → Bool)} {fn fp : List DefD} {g : Addr → Option Obj} {s : Shared} (h : ∀ a, g a = s.heap.get? a) : obsQG n fx fn fp g = (hookQ n fx fn fp).obs s := by
  have e : g = s.heap.get? := funext h
  rw [e]
  rfl
section
variable {fx : List (PySem.W.Frag → Bool)} {fn fp : List DefD} {K : PySem.W.Frag}
theorem obsQ_parts (c : obsQ fx fn fp K = valQ fn fp) : obsS fx fn K = valS fn ∧ (fp.all fun d => okP K d) = true ∧ (fp.map fun d => fnWP K d.at_) = fp.map DefD.val := by
  have c1 : ((fx.all fun f => f K) && ((fn.all fun d => d.ok K) && fp.all fun d => okP K d)) = true := congrArg (fun z : AlS => z.1) c
  have c2 : (fn.map fun d => fnW K d.at_) ++ (fp.map fun d => fnWP K d.at_) = fn.map DefD.val ++ fp.map DefD.val := congrArg (fun z : AlS => z.2) c
  obtain ⟨a, b⟩ := Bool.and_eq_true_iff.mp c1
  obtain ⟨b1, b2⟩ := Bool.and_eq_true_iff.mp b
  obtain ⟨d1, d2⟩ := List.append_inj c2 (by simp)
  refine ⟨?_, b2, d2⟩
  unfold obsS valS
  rw [a, b1, d1]
  rfl
theorem sFactQ (c : obsQ fx fn fp K = valQ fn fp) (i : Nat) {f : PySem.W.Frag → Bool} (h : fx[i]? = some f := by rfl) : f K = true := sFact (obsQ_parts c).1 i h
theorem sDefQ (c : obsQ fx fn fp K = valQ fn fp) (i : Nat) {d : DefD} (h : fn[i]? = some d := by rfl) : ∃ fd, FunD K d.name d.qual d.params d.body d.scope (d.dvs K) (d.kws K) (fAd K d.at_) fd := sDef (obsQ_parts c).1 i h
theorem sProp (c : obsQ fx fn fp K = valQ fn fp) (i : Nat) {d : DefD} (h : fp[i]? = some d := by rfl) : ∃ fd, FunD K d.name d.qual d.params d.body d.scope (d.dvs K) (d.kws K) (fAdP K d.at_) fd := by
  obtain ⟨_, c2, e⟩ := obsQ_parts c
  have e2 : (fp.map fun d => fnWP K d.at_)[i]? = (fp.map DefD.val)[i]? := by rw [e]
  rw [List.getElem?_map, List.getElem?_map, h] at e2
  exact funDP (Option.some.inj e2) (List.all_eq_true.mp c2 d (List.mem_of_getElem? h))
end
def bProp (c f : Str) (K : PySem.W.Frag) : Bool := decide (PySem.W.findIn K (.ref (ga K c)) f = some (some (.ref (ma K (ga K c) f)))) && (decide (PySem.W.specialIn K (.ref (ma K (ga K c) f)) "__get__" = some (some (.builtin "property.__get__"))) && (decide (PySem.W.takesIn K (.ref (ma K (ga K c) f)) = some true) &&
  (match PySem.W.recIn K (ma K (ga K c) f) "property" with
    | some (.ref _ :: _) => true
    | _ => false)))
theorem prop_ok {K : PySem.W.Frag} {c f : Str} (h : bProp c f K = true) : PropOf K (ga K c) f (ma K (ga K c) f) (fAdP K (c, some f)) := by
  obtain ⟨h1, h⟩ := Bool.and_eq_true_iff.mp h
  obtain ⟨h2, h⟩ := Bool.and_eq_true_iff.mp h
  obtain ⟨h3, h4⟩ := Bool.and_eq_true_iff.mp h
  refine ⟨of_decide_eq_true h1, of_decide_eq_true h2, of_decide_eq_true h3, ?_⟩
  have e : fAd K (c, some f) = ma K (ga K c) f := rfl
  unfold fAdP
  rw [e]
  split at h4
  · rename_i g r hr
    rw [hr]
    exact ⟨r, rfl⟩
  · cases h4
section
variable {X : Cx} {W : We} {e o : Expr} {es : List Expr} {f fo : EF} {pos : Pos} {m : Str} {k : Nat} {C p g : Addr} {ps : List Str} {F : FF}
def okR : Res D → Res D
  | .ok d st => .ok d st
  | _ => .bad
@[simp] theorem okR_ok (d : D) (st : Sto) : okR (.ok d st) = .ok d st := rfl
/-- e.m, a property -/
@[simp] def fProp (c : Nat) (F : FF) (n : Nat) (fo : EF) : EF := fun sg st => (fo sg st).bind fun x st1 => match insOf c x st1 with
  | some _ => okR (cF F n [] [x] st1)
  | none => .bad
theorem se_prop {c : Nat} (h : DefOk X.prog X.w X.K X.mg X.base k g ps [] F) (hr : Room (k + 1) X.A) (hc : X.mg (cName c) = some (.ref C)) (cl : Cls X.K C) (hp : PropOf X.K C m p g) (ho : SE X W o fo)
    (hab : attributeBase o m X.env (eval o X.env) = eval o X.env := by rfl) : SE X W (.Attribute o m pos) (fProp c F ps.length fo) := by
  refine ⟨fun pins s σ H Q I hq => ?_⟩
  obtain ⟨w, sg, st, rfl, rm, rs, hh⟩ := hq
  refine attr_of hab (thn (ho.run pins s σ w.h (MPost X W σ sg Q fun x st1 => match insOf c x st1 with
    | some _ => okR (cF F ps.length [] [x] st1)
    | none => .bad) I ⟨w, sg, st, rfl, rm, rs, hh.bindc fun m1 x v st1 e1 r1 q1 hp1 => ⟨m1, x, st1, rfl, r1, rs.mono e1, q1, hp1⟩⟩) fun u s1 hz => ?_)
  obtain ⟨v, H1, I1, rv, m1, x, st1, rfl, r1, rs1, q1, hp1⟩ := hz
  dsimp only at hp1
  split at hp1
  · rename_i l hl
    obtain ⟨a, dx, fs, rfl, ha, _, _⟩ := ins_of r1 q1 hl hc
    obtain ⟨mA, O, _, _, _, _⟩ := ins_get I1.hok ha
    obtain ⟨od, J, _⟩ := O.look
    obtain rfl : u = Value.ref a := rv
    obtain ⟨rest, hrec⟩ := hp.rec_
    have I2 := I1.tok (s1.toks + 1)
    have hcd : (PySem.W.clsIn X.K C).isSome = true := by
      obtain ⟨cd, hc, _⟩ := PySem.W.any_some cl.hd
      rw [hc]
      rfl
    refine PySem.W.get_bind I1.kIn J (PySem.W.plainGet_of (cl.get m)).1 (PySem.W.findObj_data hcd hp.at_ hp.get hp.tak) (PySem.W.plainGet_of (cl.get m)).2 (wpAny_call (PySem.W.prop_get (s := { s1 with toks := s1.toks + 1 }) I1.kIn hrec ?_))
    obtain ⟨⟨fd, h1, h2, _⟩, h3⟩ := h
    obtain ⟨ds, dv, bb⟩ := h2 0 (Nat.zero_le _)
    cases dv
    rw [cF_cK] at hp1
    split at hp1
    · rename_i hln
      have hlen : [Value.ref a].length = ps.length := hln
      cases hF : F [x] st1 with
      | ok d st2 =>
        rw [hF] at hp1
        refine codeAny_mono (h1.run X.A.in1 X.stack { s1 with toks := s1.toks + 1 } m1.h ⟨[.ref a], []⟩ [.ref a] [.ref a] Q (fun _ _ _ => False) hr.in1 I2.env0.in1 (by simpa using bb _ [.ref a] I2.kIn (by simpa using hlen)) (.cons rfl .nil) ⟨m1, [x], st1, rfl, r1, .one q1, hln, by rw [hF]; exact hp1⟩) fun r s' hq => ?_
        cases r with
        | error er =>
          obtain ⟨_, _, _, _, _, _, _, _, _, _, _, _, hE⟩ := hq
          exact hE.elim
        | ok fl =>
          cases fl with
          | ret u =>
            obtain ⟨v, H', I3, rv, q3⟩ := I2.after hq
            show wpAny _ _ (handedOut u) _ _ _
            rw [PySem.W.handedOut_of (handed_of rv)]
            exact wpAny_pure ⟨v, H', I3, rv, q3⟩
          | next => exact False.elim hq
          | brk => exact False.elim hq
          | cont => exact False.elim hq
      | exc c o st2 => rw [hF] at hp1; exact False.elim hp1
      | bad => rw [hF] at hp1; exact False.elim hp1
    · exact False.elim hp1
  · exact False.elim hp1
end
/-! dict(d); pop, extend of live lists -/
section
variable {X : Cx} {W : We}
def bDictC : List D → Sto → Res D
  | [.loc n], st => match kvS st[n]? with
    | some l => .ok (.loc st.length) (st ++ [.dict l])
    | none => .bad
  | _, _ => .bad
theorem fits_dict : FitsL X W (fun xs H Q => ∃ (a : Addr) (kvs : List (Key × V)), xs = [.ref a] ∧ Rd H a (.dK kvs) ∧ ∀ p, H p = none → Q (.ref p) (upd H p (.dK kvs))) bDictC := by
  intro m st σ l vs Q rm ra hp
  unfold bDictC at hp
  split at hp
  · rename_i n
    obtain ⟨v, rfl, h1⟩ := reps1 ra
    split at hp
    · rename_i l hl
      obtain ⟨a, kvs, rfl, k1, k2⟩ := dict_rd rm h1 hl
      refine ⟨a, kvs, rfl, k1, fun p hn => ?_⟩
      refine hp (m.new p (.dK kvs)) (.ref p) (Ext.new rm hn) (rm.new hn ⟨kvs, upd_same, k2.to.1, k2.to.2.mono (Ext.new (o := .dK kvs) rm hn)⟩) (.loc ?_)
      show (m.r ++ [p])[st.length]? = some p
      rw [← rm.len, List.getElem?_append_right (Nat.le_refl _)]
      simp
    · exact False.elim hp
  · exact False.elim hp
def mPop (x : D) (l : List D) (st : Sto) : Res D := match x, l with
  | .loc n, [] => match st[n]? with
    | some (.lst xs) => match xs[xs.length - 1]? with
      | some d => .ok d (st.set n (.lst xs.dropLast))
      | none => .bad
    | _ => .bad
  | _, _ => .bad
theorem Reps.dropLast {K : PySem.W.Frag} {mg : Str → Option Value} {r : List Addr} {G : Hp} {l : List D} {vs : List V} (h : Reps K mg r G l vs) : Reps K mg r G l.dropLast vs.dropLast := by
  rw [List.dropLast_eq_take, List.dropLast_eq_take, h.length]
  exact h.take _
theorem fits_pop : FitsM X W rPop mPop := by
  intro m st σ x v l vs Q rm q ql hp
  unfold mPop at hp
  split at hp
  · split at hp
    · rename_i xs hx
      split at hp
      · rename_i d hd
        cases q with
        | loc h1 =>
          obtain ⟨ys, h2, h3⟩ := rm.obj _ _ _ h1 hx
          cases ql
          obtain ⟨y, hy, qy⟩ := h3.get hd
          have ex : Ext m (m.put _ (.lst ys.dropLast)) := Ext.put (List.mem_of_getElem? h1)
          refine ⟨_, ys, y, rfl, rfl, h2, by rw [← h3.length]; exact hy, ?_⟩
          exact hp (m.put _ (.lst ys.dropLast)) y ex (rm.put h1 ⟨_, upd_same, h3.dropLast⟩) (qy.mono ex)
      · exact False.elim hp
    · exact False.elim hp
  · exact False.elim hp
def mExt (x : D) (l : List D) (st : Sto) : Res D := match x, l with
  | .loc n, [.lst zs] => match st[n]? with
    | some (.lst xs) => if xs.length + zs.length ≤ 16777216 then .ok .non (st.set n (.lst (xs ++ zs))) else .bad
    | _ => .bad
  | _, _ => .bad
theorem fits_ext : FitsM X W rExtend mExt := by
  intro m st σ x v l vs Q rm q ql hp
  unfold mExt at hp
  split at hp
  · rename_i n zs
    split at hp
    · rename_i xs hx
      split at hp
      · rename_i hl
        cases q with
        | loc h1 =>
          obtain ⟨ys, h2, h3⟩ := rm.obj _ _ _ h1 hx
          obtain ⟨b, rfl, qb⟩ := reps1 (X := X) ql
          cases qb with
          | lst g1 g2 =>
            rename_i ws a
            have ex : Ext m (m.put _ (.lst (ys ++ ws))) := Ext.put (List.mem_of_getElem? h1)
            refine ⟨_, _, ys, ws, rfl, rfl, h2, rm.sub _ _ g1, by rw [← h3.length, ← g2.length, sizeLine_eq]; exact hl, ?_⟩
            exact hp (m.put _ (.lst (ys ++ ws))) .non ex (rm.put h1 ⟨_, upd_same, h3.append g2⟩) .non
      · exact False.elim hp
    · exact False.elim hp
  · exact False.elim hp
end
/-! live objects made with keywords -/
section
variable {X : Cx} {W : We} {e o : Expr} {es : List Expr} {kws : List Keyword} {g gk : AF} {pos p apos pos' : Pos} {x m : Str} {k np : Nat} {fn C : Addr} {ps ks : List Str} {dvs : List V} {dds : List D} {F : FF} {arr : List (Nat × Nat)}
def mkLK (c : Nat) (F : FF) (n np nk : Nat) (arr : List (Nat × Nat)) (dds : List D) (l z : List D) : Sto → Res D := mkLG c (fun x => cK F n np nk arr dds (x :: l) z)
theorem se_makeLK0 {ci : Nat} (h : DefKw X.prog X.w X.K X.mg X.base k fn ps dvs F np ks arr) (hd : ∀ r G, Reps X.K X.mg r G dds dvs) (hr : Room (k + 1) X.A) (tk : Takes X W.w) (hc : X.mg (cName ci) = some (.ref C)) (M : Mk X.K C fn) (hg : Gl X x) (hm : X.mg x = some (.ref C)) (hk : SK X W kws gk)
    (hall : (backToKw pos (keywordEach kws X.env)).all (·.1.isSome) = true := by rfl) (hks : (backToKw pos (keywordEach kws X.env)).filterMap (·.1) = ks := by rfl)
    (hdb : (x == ("__debug__" : Str)) = false := by decide)
    (hpl : ((backTo pos (starEach [] X.env)).any (·.1) || (backToKw pos (keywordEach kws X.env)).any (·.1.isNone)) = false := by rfl) :
    SE X W (.Call (.Name x p) [] kws pos) (fCallK (mkLK ci F ps.length np ks.length arr dds) aNil gk) := by
  refine ⟨fun pins s σ H Q I ht => ?_⟩
  obtain ⟨w, sg, st, rfl, rm, rs, hp⟩ := ht
  refine wpAny_Call_Name_kw (ld_glob I hg hm ?_ hdb)
  refine PySem.W.callWith_KW0 (h₀ := X.base) I.ok.mod.kin M.kp hall (thn (hk.run pos pins s σ w.h (fun zs H3 => ∃ m3 z st3, m3.h = H3 ∧ Rel X.K X.mg m3 st3 ∧ Reps X.K X.mg m3.r m3.g z zs ∧ Post X.K X.mg W.w m3 σ (RD X.K X.mg) Q (mkLK ci F ps.length np ks.length arr dds [] z st3)) I
    ⟨w, sg, st, rfl, rm, rs, Post.bindc (x := gk sg st) hp fun m3 z zs st3 e3 r3 q3 hp3 => ⟨m3, z, st3, rfl, r3, q3, hp3⟩⟩) fun ws s2 hz => ?_) hpl
  obtain ⟨zs, H3, I3, rz, m3, z, st3, rfl, r3, q3, hp3⟩ := hz
  rw [hks]
  exact ⟨I3.kIn, run_makeK (us := []) hc M h hd hr tk I3 .nil rz r3 .nil q3 (mkLG_post (Fk := fun x => cK F ps.length np ks.length arr dds (x :: []) z) r3 hp3)⟩
end
/-! attributes as targets of a tuple -/
section
variable {X : Cx} {W : We} {e : Expr} {f : EF} {pos : Pos}
theorem fld_put {m : Hw} {st st4 : Sto} {ci i : Nat} {x d : D} {u v : V} {C : Addr} {mm : Str} (hc : X.mg (cName ci) = some (.ref C)) (hf : (cFlds ci)[i]? = some mm) (hnd : (cFlds ci).Nodup) (hlen : (cFlds ci).length < 1000) (hst : stFld ci i x d st = some st4) (q2 : Rep X.K X.mg m.r m.g x u) (r2 : Rel X.K X.mg m st) (q1 : Rep X.K X.mg m.r m.g d v) (hold : ∀ n l, x = .loc n → st[n]? = some (.ins ci l) → i < l.length) :
    ∃ a dx fs, u = .ref a ∧ m.h a = some (.ins C dx fs) ∧ fs.length < 1000 ∧ Ext m (m.put a (.ins C dx (putF mm v fs))) ∧ Rel X.K X.mg (m.put a (.ins C dx (putF mm v fs))) st4 := by
  unfold stFld at hst
  split at hst
  · rename_i n
    split at hst
    · rename_i c' l hl
      split at hst
      · rename_i hcc
        cases hst
        obtain ⟨rfl, hi⟩ := hcc
        have hlt := hold n l rfl hl
        cases q2 with
        | loc hr =>
          obtain ⟨C', dx, fs, k1, k2, k3, k4⟩ := r2.obj _ _ _ hr hl
          rw [hc] at k1
          cases k1
          have hlf : fs.length = l.length := by have := k4.length; simpa using this.symm
          have hll : l.length ≤ (cFlds c').length := by
            have z := congrArg List.length k3
            simp at z
            omega
          refine ⟨_, dx, fs, rfl, k2, by omega, Ext.put (List.mem_of_getElem? hr), r2.put hr ?_⟩
          rw [if_pos hlt]
          obtain ⟨z1, z2⟩ := putF_old (y := v) k3 (hnd.sublist (List.take_sublist _ _)) (take_at hf hlt)
          exact ⟨C, dx, _, hc, upd_same, by rw [z1]; simp, by rw [z2]; exact k4.set q1 i⟩
      · cases hst
    · cases hst
  · cases hst
def oldF (ci i : Nat) (x : D) (st : Sto) : Bool := match x with
  | .loc n => match st[n]? with
    | some (.ins c l) => decide (c = ci ∧ i < l.length)
    | _ => false
  | _ => false
theorem oldF_of {ci i : Nat} {x : D} {st : Sto} (h : oldF ci i x st = true) : ∀ n l, x = .loc n → st[n]? = some (.ins ci l) → i < l.length := fun n l hx hl => by
  subst hx
  have h2 : (match st[n]? with
    | some (.ins c l) => decide (c = ci ∧ i < l.length)
    | _ => false) = true := h
  rw [hl] at h2
  exact (of_decide_eq_true h2).2
def rFlds : List (Nat × Nat × EF) → List D → Sg → Sto → Res Unit
  | [], [], _, st => .ok () st
  | (c, i, fo) :: r, d :: ds, sg, st => (fo sg st).bind fun x st1 => if oldF c i x st1 = true then (match stFld c i x d st1 with
    | some st2 => rFlds r ds sg st2
    | none => .bad) else .bad
  | _, _, _, _ => .bad
inductive Flds (X : Cx) (W : We) : List Expr → List (Nat × Nat × EF) → Prop
  | nil : Flds X W [] []
  | cons {o : Expr} {m : Str} {ps : Pos} {fo : EF} {ci i : Nat} {C : Addr} {es : List Expr} {l : List (Nat × Nat × EF)} (hc : X.mg (cName ci) = some (.ref C)) (cl : Cls X.K C) (na : NoAttr X.K C m) (hf : (cFlds ci)[i]? = some m) (hnd : (cFlds ci).Nodup) (hlen : (cFlds ci).length < 1000) (ho : SE X W o fo)
      (hs : (assignEach (.Attribute o m ps :: es) X.env).map (·.2) = assign (.Attribute o m ps) X.env :: (assignEach es X.env).map (·.2)) (t : Flds X W es l) : Flds X W (.Attribute o m ps :: es) ((ci, i, fo) :: l)
def gFlds (X : Cx) (W : We) (l : List (Nat × Nat × EF)) : TGs := fun vs σ H Q => ∃ m sg st ds, m.h = H ∧ Rel X.K X.mg m st ∧ SgRep X.K X.mg W.e m sg σ ∧ Reps X.K X.mg m.r m.g ds vs ∧ Post X.K X.mg W.w m σ (fun _ (_ : Unit) (_ : Unit) => True) (fun _ H' => Q σ H') (rFlds l ds sg st)
theorem flds_pgs {es : List Expr} {l : List (Nat × Nat × EF)} (h : Flds X W es l) : PGs X es (gFlds X W l) := by
  induction h with
  | nil =>
    refine ⟨fun pins s σ H vs us Q I r hq => ?_⟩
    obtain ⟨m, sg, st, ds, rfl, rm, rs, q, hp⟩ := hq
    cases q with
    | nil =>
      cases r
      exact wpAny_pure ⟨σ, m.h, I, hp m () (Ext.refl _) rm trivial⟩
    | cons a b => exact False.elim hp
  | @cons o mm ps fo ci i C es l hc cl na hf hnd hlen ho hs t ih =>
    refine ⟨fun pins s σ H vs us Q I r hq => ?_⟩
    obtain ⟨m, sg, st, ds, rfl, rm, rs, q, hp⟩ := hq
    cases q with
    | nil => exact False.elim hp
    | @cons d v ds vs qd q =>
      cases r with
      | @cons _ u _ us r rr =>
        rw [hs]
        have hp' : Post X.K X.mg W.w m σ (fun _ (_ : Unit) (_ : Unit) => True) (fun _ H' => Q σ H') ((fo sg st).bind fun x st1 => if oldF ci i x st1 = true then (match stFld ci i x d st1 with
          | some st2 => rFlds l ds sg st2
          | none => .bad) else .bad) := hp
        refine PyProof.Rows.assignInOrder_cons ?_
        show wpAny _ _ (do let ov ← holding [u] (eval o X.env); standAt ps.atName; holding [u, ov] (setAttr ov mm u); release [u, ov] []) _ _ s
        refine wpAny_bind (wpAny_holding (thn (ho.run pins s σ m.h (fun x H1 => ∃ m1 y st1, m1.h = H1 ∧ Ext m m1 ∧ Rel X.K X.mg m1 st1 ∧ Rep X.K X.mg m1.r m1.g y x ∧ Post X.K X.mg W.w m1 σ (fun _ (_ : Unit) (_ : Unit) => True) (fun _ H' => Q σ H') (if oldF ci i y st1 = true then (match stFld ci i y d st1 with
          | some st2 => rFlds l ds sg st2
          | none => .bad) else .bad)) I ⟨m, sg, st, rfl, rm, rs, hp'.bindc fun m1 y x st1 e1 r1 q1 hp1 => ⟨m1, y, st1, rfl, e1, r1, q1, hp1⟩⟩) fun ov s1 hz => ?_))
        obtain ⟨x, H1, I1, rx, m1, y, st1, rfl, e1, r1, q1, hp1⟩ := hz
        split at hp1
        · rename_i hold
          split at hp1
          · rename_i st2 hst
            obtain ⟨a, dx, fs, rfl, ha, hl, e2, r2⟩ := fld_put hc hf hnd hlen hst q1 r1 (qd.mono e1) (oldF_of hold)
            obtain rfl : ov = Value.ref a := rx
            refine wpAny_bind (wpAny_standAt (wpAny_bind (wpAny_holding (setattr_ok I1 ha cl na hl r fun s2 I2 => ?_))))
            refine wpAny_release ?_
            exact ih.run pins s2 σ _ _ _ Q I2 rr ⟨_, sg, st2, ds, rfl, r2, (rs.mono e1).mono e2, (q.mono e1).mono e2, Post.mono hp1 e2⟩
          · exact False.elim hp1
        · exact False.elim hp1
@[simp] def sAsgF (l : List (Nat × Nat × EF)) (f : EF) : SF := fun sg st => (f sg st).flw sg fun d st1 => match d with
  | .tup ds => if ds.length = l.length then (rFlds l ds sg st1).flw sg fun _ st2 => .nx sg st2 else .bad
  | _ => .bad
theorem ss_asgF {es : List Expr} {k : Nat} {ps : Pos} {l : List (Nat × Nat × EF)} (hc : X.calm = true) (h : Flds X W es l) (he : SE X W e f) (hn : (assignEach es X.env).length = l.length := by rfl) (hst : (assignEach es X.env).findIdx? (·.1) = none := by rfl)
    (hs : swapsWithSole [.Tuple es k ps] e pos.line X.env = pure false := by rfl) (hw : swappedStores [.Tuple es k ps] e X.env = pure none := by rfl) (h1 : (assignEach [.Tuple es k ps] X.env).map (·.2) = [assign (.Tuple es k ps) X.env] := by rfl) : SS X W (.Assign [.Tuple es k ps] e pos) (sAsgF l f) :=
  ps_weak (ps_asg he (pg_tup hc (flds_pgs h) hn hst) hs hw h1) fun D σ H ⟨m, sg, st, e, rm, rs, hp⟩ => ⟨m, sg, st, e, rm, rs, flwc hp rs fun m1 y v st1 e1 r1 q1 hp1 => by
    split at hp1
    · rename_i ds
      split at hp1
      · rename_i hlen
        cases q1 with
        | tup t1 t2 =>
          refine ⟨_, _, rfl, sqT_mono r1.sub t1, by rw [← t2.length]; exact hlen, m1, sg, st1, ds, rfl, r1, rs.mono e1, t2, ?_⟩
          exact flwc (r := rFlds l ds sg st1) (R := fun _ _ _ => True) (β := Unit) (Q := fun _ H3 => D.nx σ H3) hp1 (rs.mono e1) fun m2 y2 v2 st2 e2 r2 q2 hp2 => hp2 m2 _ (Ext.refl _) r2 ((rs.mono e1).mono e2)
      · exact False.elim hp1
    · exact False.elim hp1⟩
end
end Sh
/-! Part ZS: dict comprehensions over a dict; sorted of a dict's keys -/
namespace Sh
open PySem L2 He
def putP (acc : List (Key × D)) (d : D) : Option (List (Key × D)) := match d with
  | .tup [k, v] => (dKey k).map fun k => putD acc k v
  | _ => none
def putsP : List D → List (Key × D) → Option (List (Key × D))
  | [], acc => some acc
  | d :: r, acc => match putP acc d with
    | some a => putsP r a
    | none => none
def pairE (fk fv : EF) : EF := fun sg st => (fk sg st).bind fun k st1 => (fv sg st1).bind fun v st2 => .ok (.tup [k, v]) st2
theorem putD_le (l : List (Key × D)) (k : Key) (d : D) : (putD l k d).length ≤ l.length + 1 := by
  unfold putD
  split <;> simp
theorem KRel.len {K : PySem.W.Frag} {mg : Str → Option Value} {r : List Addr} {G : Hp} {l : List (Key × D)} {vs : List (Key × V)} (h : KRel K mg r G l vs) : vs.length = l.length := by
  have := congrArg List.length h.to.1
  simpa using this
theorem KRel.mono {K : PySem.W.Frag} {mg : Str → Option Value} {m m' : Hw} {l : List (Key × D)} {vs : List (Key × V)} (h : KRel K mg m.r m.g l vs) (e : Ext m m') : KRel K mg m'.r m'.g l vs := by
  induction h with
  | nil => exact .nil
  | cons h t ih => exact .cons (h.mono e) ih
section
variable {X : Cx} {W : We}
theorem dc_ok {t : Tg} {ct : TF} {fk fv : EF} {ws : List Nat} {σ : St} {sg : Sg} {m0 : Hw} {J : It} {w : Wk} {st0 : Sto} {Qd : V → Hp → Prop} (hw : ∀ i ∈ tgSl t, i ∈ ws) (hlen : w.l.length ≤ 16777216) (it : ItOk X.K X.mg m0 J w.l w.ck) (r0 : Rel X.K X.mg m0 st0) (rs : SgRep X.K X.mg W.e m0 sg σ) (hne : ∀ z, W.e = some z → z.i ∉ ws)
    (R : List (Key × D) → Sto → Prop) (Dl : Addr) (hD : m0.h Dl = none) (start : ∃ ys st l, lcF w.ck t ct (pairE fk fv) (wipeD sg ws) w.l st0 = .ok ys st ∧ putsP ys [] = some l ∧ R l st)
    (fin : ∀ m1 l kvs st, Ext m0 m1 → m1.h Dl = some (.dK kvs) → Dl ∉ m1.r → m1.g Dl = none → Rel X.K X.mg m1 st → KRel X.K X.mg m1.r m1.g l kvs → R l st → Qd (.ref Dl) m1.h) :
    ∃ Wd : Nat → Nat → Hp → Prop, (∃ k, Wd 0 k (upd m0.h Dl (.dK []))) ∧ ∀ i k H, Wd i k H →
      (J.stop i H ∧ Qd (.ref Dl) H) ∨ (J.go i H ∧ ∃ Nx : Hp → Prop, (∀ H', Nx H' → ∃ k', k' < k ∧ Wd (i + 1) k' H') ∧ ∀ x H', J.yld i H x H' → gTg X.K t x (wipe σ ws) H' fun σ2 H2 => wipe σ2 ws = wipe σ ws ∧ (TOf X.K X.mg (WF W) RB ct) σ2 H2 fun b H3 =>
        if b = true then (TOf X.K X.mg (WF W) (RD X.K X.mg) fk) σ2 H3 fun y H4 => (TOf X.K X.mg (WF W) (RD X.K X.mg) fv) σ2 H4 fun z H5 => ∃ kvs k, y = kV k ∧ H5 Dl = some (.dK kvs) ∧ kvs.length < sizeLine ∧ Nx (upd H5 Dl (.dK (putK kvs k z))) else Nx H3) := by
  refine ⟨fun i k H => k = w.l.length - i ∧ i ≤ w.l.length ∧ ∃ m1 st1 acc kvs, m1.h = H ∧ Ext m0 m1 ∧ m1.h Dl = some (.dK kvs) ∧ Dl ∉ m1.r ∧ m1.g Dl = none ∧ Rel X.K X.mg m1 st1 ∧ KRel X.K X.mg m1.r m1.g acc kvs ∧ acc.length ≤ i ∧
    ∃ ys st l, lcF w.ck t ct (pairE fk fv) (wipeD sg ws) (w.l.drop i) st1 = .ok ys st ∧ putsP ys acc = some l ∧ R l st, ?_, ?_⟩
  · refine ⟨w.l.length, by simp, Nat.zero_le _, m0.put Dl (.dK []), st0, [], [], rfl, (Ext.refl m0).side hD, upd_same, r0.fresh hD, r0.gnone hD, r0.side (r0.fresh hD) (r0.gnone hD), .nil, Nat.zero_le _, ?_⟩
    simpa using start
  rintro i k H ⟨rfl, hi, m1, st1, acc, kvs, rfl, e1, d1, d2, d3, r1, q1, ha, ys, st, l, hl, hp, hR⟩
  have s1 : SgRep X.K X.mg W.e m1 (wipeD sg ws) (wipe σ ws) := wipe_rep (rs.mono e1) ws hne
  by_cases hlt : i < w.l.length
  · rw [List.drop_eq_getElem_cons hlt] at hl
    unfold lcF at hl
    split at hl
    · rename_i hck
      obtain ⟨_, hgo⟩ := it m1 st1 e1 r1 hck i
      obtain ⟨k1, k2⟩ := hgo w.l[i] (List.getElem?_eq_getElem hlt)
      refine .inr ⟨k1, fun H => ∃ m1 st1 acc kvs, m1.h = H ∧ Ext m0 m1 ∧ m1.h Dl = some (.dK kvs) ∧ Dl ∉ m1.r ∧ m1.g Dl = none ∧ Rel X.K X.mg m1 st1 ∧ KRel X.K X.mg m1.r m1.g acc kvs ∧ acc.length ≤ i + 1 ∧
        ∃ ys st l, lcF w.ck t ct (pairE fk fv) (wipeD sg ws) (w.l.drop (i + 1)) st1 = .ok ys st ∧ putsP ys acc = some l ∧ R l st, fun H' z => ⟨w.l.length - (i + 1), by omega, rfl, hlt, z⟩, fun y H' hy => ?_⟩
      obtain ⟨m2, rfl, e2, r2, q2⟩ := k2 y H' hy
      split at hl
      · rename_i sg2 hsg
        refine tg_of (ws := ws) r2 hsg q2 (s1.mono e2) fun σ' s' hws => ⟨?_, ?_⟩
        · rw [hws hw]
          exact wipe_wipe ws ws fun _ h => h
        · have f2 := e2.fr Dl _ d1 d2
          cases hc : ct sg2 st1 with
          | exc c o s => rw [hc] at hl; simp at hl
          | bad => rw [hc] at hl; simp at hl
          | ok b st2 =>
            rw [hc] at hl
            simp only [Res.noex, Res.bind] at hl
            refine ⟨m2, sg2, st1, rfl, r2, s', ?_⟩
            rw [hc]
            intro m3 b' e3 r3 hb
            cases hb
            have f3 := e3.fr Dl _ f2.1 f2.2.1
            cases b with
            | false =>
              rw [if_neg Bool.false_ne_true] at hl
              exact iteF ⟨m3, st2, acc, kvs, rfl, (e1.trans e2).trans e3, f3.1, f3.2.1, f3.2.2 (f2.2.2 d3), r3, (q1.mono e2).mono e3, by omega, ys, st, l, hl, hp, hR⟩
            | true =>
              rw [if_pos rfl] at hl
              refine iteT ?_
              rw [show pairE fk fv sg2 st2 = (fk sg2 st2).bind fun k st1 => (fv sg2 st1).bind fun v st2 => .ok (.tup [k, v]) st2 from rfl] at hl
              cases hf : fk sg2 st2 with
              | exc c o s => rw [hf] at hl; simp [Res.noex, Res.bind] at hl
              | bad => rw [hf] at hl; simp [Res.noex, Res.bind] at hl
              | ok dk st3 =>
                rw [hf] at hl
                simp only [Res.bind] at hl
                refine ⟨m3, sg2, st2, rfl, r3, s'.mono e3, ?_⟩
                rw [hf]
                intro m4 vk e4 r4 q4
                have f4 := e4.fr Dl _ f3.1 f3.2.1
                cases hv : fv sg2 st3 with
                | exc c o s => rw [hv] at hl; simp [Res.noex, Res.bind] at hl
                | bad => rw [hv] at hl; simp [Res.noex, Res.bind] at hl
                | ok dv st4 =>
                  rw [hv] at hl
                  simp only [Res.noex, Res.bind] at hl
                  refine ⟨m4, sg2, st3, rfl, r4, (s'.mono e3).mono e4, ?_⟩
                  rw [hv]
                  intro m5 v e5 r5 q5
                  have f5 := e5.fr Dl _ f4.1 f4.2.1
                  have q1' := (((q1.mono e2).mono e3).mono e4).mono e5
                  have hsz : kvs.length < sizeLine := by
                    rw [q1.len, sizeLine_eq]
                    omega
                  cases hr : lcF w.ck t ct (pairE fk fv) (wipeD sg ws) (w.l.drop (i + 1)) st4 with
                  | exc c o s => rw [hr] at hl; simp at hl
                  | bad => rw [hr] at hl; simp at hl
                  | ok ys2 st5 =>
                    rw [hr] at hl
                    simp only [Res.ok.injEq] at hl
                    obtain ⟨rfl, rfl⟩ := hl
                    unfold putsP putP at hp
                    dsimp only at hp
                    cases hk : dKey dk with
                    | none => rw [hk] at hp; simp at hp
                    | some k' =>
                      rw [hk] at hp
                      simp only [Option.map_some] at hp
                      obtain rfl := key_rep q4 hk
                      refine ⟨kvs, k', rfl, f5.1, hsz, m5.put Dl (.dK (putK kvs k' v)), st4, putD acc k' dv, _, rfl, ((((e1.trans e2).trans e3).trans e4).trans e5).side hD, upd_same, f5.2.1, f5.2.2 (f4.2.2 (f3.2.2 (f2.2.2 d3))), r5.side f5.2.1 (f5.2.2 (f4.2.2 (f3.2.2 (f2.2.2 d3)))), q1'.put q5, by have := putD_le acc k' dv; omega, ?_⟩
                      exact ⟨ys2, st5, l, hr, hp, hR⟩
      · cases hl
    · cases hl
  · have : i = w.l.length := by omega
    subst this
    rw [List.drop_length] at hl
    unfold lcF at hl
    split at hl
    · rename_i hck
      cases hl
      cases hp
      exact .inl ⟨(it m1 st1 e1 r1 hck _).1 (Nat.le_refl _), fin m1 acc kvs st1 e1 d1 d2 d3 r1 q1 hR⟩
    · cases hl
theorem dc_new {σ : St} {Q : VK} {m1 m2 : Hw} {l : List (Key × D)} {st1 : Sto} {Dl : Addr} {kvs : List (Key × V)} (hD : m1.h Dl = none) (e2 : Ext m1 m2) (h1 : m2.h Dl = some (.dK kvs)) (h2 : Dl ∉ m2.r) (h3 : m2.g Dl = none) (r2 : Rel X.K X.mg m2 st1) (q2 : KRel X.K X.mg m2.r m2.g l kvs) (hp : Post X.K X.mg W.w m1 σ (RD X.K X.mg) Q (.ok (.loc st1.length) (st1 ++ [.dict l]))) : Q (.ref Dl) m2.h := by
  have er : ∀ (n : Nat) (a : Addr), m2.r[n]? = some a → (m2.r ++ [Dl])[n]? = some a := fun n a z => by
    rw [List.getElem?_append_left (List.getElem?_eq_some_iff.mp z).1]; exact z
  have hn : (m2.r ++ [Dl])[st1.length]? = some Dl := by
    rw [← r2.len, List.getElem?_append_right (Nat.le_refl _)]
    simp
  refine hp ⟨m2.r ++ [Dl], m2.g, m2.h⟩ (.ref Dl) ?_ ?_ (.loc hn)
  · obtain ⟨t, ht⟩ := e2.pre
    refine ⟨⟨t ++ [Dl], by rw [ht, List.append_assoc]⟩, e2.g, fun a u q n => ?_⟩
    obtain ⟨k1, k2, k3⟩ := e2.fr a u q n
    refine ⟨k1, ?_, k3⟩
    have : a ≠ Dl := ne_of_none q hD
    show a ∉ m2.r ++ [Dl]
    simp [k2, this]
  · refine ⟨r2.sub, by simp [r2.len], ?_, fun a z => ?_, fun n a so e1 e2 => ?_⟩
    · show (m2.r ++ [Dl]).Nodup
      rw [List.nodup_append]
      refine ⟨r2.nd, by simp, fun a ha b hb e => ?_⟩
      have hb' : b = Dl := by simpa using hb
      subst e
      exact h2 (hb' ▸ ha)
    · have z' : a ∈ m2.r ++ [Dl] := z
      rcases List.mem_append.mp z' with z' | z'
      · exact r2.off a z'
      · have : a = Dl := by simpa using z'
        rw [this]; exact h3
    · have e1 : (m2.r ++ [Dl])[n]? = some a := e1
      by_cases hlt : n < m2.r.length
      · rw [List.getElem?_append_left hlt] at e1
        rw [List.getElem?_append_left (by rw [← r2.len]; exact hlt)] at e2
        exact (r2.obj n a so e1 e2).mono' er (fun _ _ z => z) fun u q => q
      · have hl := r2.len
        rw [List.getElem?_append_right (by omega)] at e1 e2
        have h0 : n - m2.r.length = 0 := by
          cases z : n - m2.r.length with
          | zero => rfl
          | succ k => rw [z] at e1; simp at e1
        have h0' : n - st1.length = 0 := by omega
        rw [h0] at e1; rw [h0'] at e2
        simp at e1 e2
        subst e1; subst e2
        exact ⟨kvs, h1, q2.to.1, Reps.mono' er (fun _ _ z => z) _ _ q2.to.2⟩
@[simp] noncomputable def fDcK (ws : List Nat) (fo : EF) (y : Wy) (t : Tg) (c : TF) (fk fv : EF) : EF := fun sg st => (lcLk ws fo y t c (pairE fk fv) sg st).bind fun ys st1 => match putsP ys [] with
  | some l => .ok (.loc st1.length) (st1 ++ [.dict l])
  | none => .bad
variable {t : Tg} {ct : TF} {fk fv f : EF} {ifs : List Expr} {scope : Scope} {own : List (Str × Nat)} {kx vx tg iter e : Expr} {pos apos cpos : Pos}
theorem tDcK_of {σ : St} {Q : VK} {m : Hw} {sg : Sg} {st : Sto} {ws : List Nat} {y : Wy} (hw : ∀ i ∈ tgSl t, i ∈ ws) (hne : ∀ z, W.e = some z → z.i ∉ ws) (rm : Rel X.K X.mg m st) (rs : SgRep X.K X.mg W.e m sg σ) (hp : Post X.K X.mg W.w m σ (RD X.K X.mg) Q (fDcK ws f y t ct fk fv sg st)) :
    ulTE X (tDc (y.ti (lkTE X (TOf X.K X.mg W (RD X.K X.mg) f))) (gTg X.K t) (TOf X.K X.mg (WF W) RB ct) (TOf X.K X.mg (WF W) (RD X.K X.mg) fk) (TOf X.K X.mg (WF W) (RD X.K X.mg) fv) ws) σ m.h Q := by
  unfold fDcK lcLk at hp
  rw [bind_assoc'] at hp
  refine y.ti_of ?_ lk_mono
  refine ⟨m, sg, st, rfl, rm, rs, hp.bindc fun m1 x v st1 e1 r1 q1 hp1 => ?_⟩
  split at hp1
  · rename_i n
    split at hp1
    · rename_i l hl
      split at hp1
      · rename_i hx
        cases q1 with
        | loc ra =>
          rename_i a
          obtain ⟨kvs, k1, k2, k3⟩ := r1.obj _ _ _ ra hl
          refine ⟨a, .dK kvs, rfl, k1, trivial, fun od hnf => ⟨a, od, kvs, rfl, upd_same, fun Dl hD => ?_⟩⟩
          have hn : n < st1.length := (List.getElem?_eq_some_iff.mp hl).1
          have am : a ∈ m1.r := List.mem_of_getElem? ra
          have e2 : Ext m1 (m1.put a (.frz od (.dK kvs))) := Ext.put am
          have r2 : Rel X.K X.mg (m1.put a (.frz od (.dK kvs))) (lockAt st1 n l od kvs) := r1.put ra ⟨upd_same, k2, k3⟩
          have ln : (lockAt st1 n l od kvs)[n]? = some (.lock l od kvs) := by unfold lockAt; simp [hn]
          have back : (lockAt st1 n l od kvs).set n (.dict l) = st1 := by
            unfold lockAt
            rw [List.set_set]
            have := (List.getElem?_eq_some_iff.mp hl).2
            rw [← this, List.set_getElem_self]
          have hs := Classical.choose_spec hx.2 od kvs
          generalize Classical.choose hx.2 = ys at hs hp1
          dsimp only [Res.bind] at hp1
          split at hp1
          · rename_i ld hld
            have hda : Dl ≠ a := fun z => by
              subst z
              have : upd m1.h Dl (.frz od (.dK kvs)) Dl = none := hD
              rw [upd_same] at this
              cases this
            have hD1 : m1.h Dl = none := by
              have : upd m1.h a (.frz od (.dK kvs)) Dl = none := hD
              rwa [upd_ne hda] at this
            refine dc_ok (w := ⟨y.sel l, lkck n l od kvs⟩) (Qd := fun x H1 => ∃ d od u, H1 d = some (.frz od u) ∧ (∀ o' u', X.H_0 d ≠ some (.frz o' u')) ∧ Q x (upd H1 d u)) hw hx.1 (y.ok (e2.at_ ra)) r2 (rs.mono (e1.trans e2)) hne (fun l' st' => l' = ld ∧ st' = lockAt st1 n l od kvs) Dl hD ⟨ys, _, ld, hs, hld, rfl, rfl⟩ fun m3 l' vs st' e3 h1 h2 h3 r3 q3 hR => ?_
            obtain ⟨rfl, rfl⟩ := hR
            have ra3 : m3.r[n]? = some a := e3.at_ (e2.at_ ra)
            obtain ⟨j1, j2, j3⟩ := r3.obj n a _ ra3 ln
            have e4 : Ext m3 (m3.put a (.dK kvs)) := Ext.put (List.mem_of_getElem? ra3)
            have r4 : Rel X.K X.mg (m3.put a (.dK kvs)) st1 := by
              have := r3.put (so := .dict l) ra3 ⟨kvs, upd_same, j2, j3⟩
              rwa [back] at this
            refine ⟨a, od, .dK kvs, j1, hnf, ?_⟩
            refine dc_new (m2 := m3.put a (.dK kvs)) hD1 ((e2.trans e3).trans e4) ?_ h2 h3 r4 (q3.mono e4) hp1
            show upd m3.h a (.dK kvs) Dl = _
            rw [upd_ne hda]
            exact h1
          · exact False.elim hp1
      · exact False.elim hp1
    · exact False.elim hp1
  · exact False.elim hp1
theorem se_dcK {y : Wy} (hc : X.calm = true) (hN : X.N.Nodup) (hi : PI X tg iter (y.ti (lkTE X (TOf X.K X.mg W (RD X.K X.mg) f)))) (ok : BlkOk X.N X.env.scope scope own) (hw : ∀ i ∈ tgSl t, i ∈ own.map (·.2))
    (hg : ∀ (s : Shared) (H : Hp) (C : Addr) (cl : List (Str × Addr)) (fp : List Addr), PG (X.blk s H scope (compEnvC scope cl C X.env) fp) tg (gTg X.K t)) (ht : ∀ (s : Shared) (H : Hp) (C : Addr) (cl : List (Str × Addr)) (fp : List Addr), STs (X.blk s H scope (compEnvC scope cl C X.env) fp) (WF W) ifs ct)
    (hk : ∀ (s : Shared) (H : Hp) (C : Addr) (cl : List (Str × Addr)) (fp : List Addr), SE (X.blk s H scope (compEnvC scope cl C X.env) fp) (WF W) kx fk)
    (he : ∀ (s : Shared) (H : Hp) (C : Addr) (cl : List (Str × Addr)) (fp : List Addr), SE (X.blk s H scope (compEnvC scope cl C X.env) fp) (WF W) vx fv) (hfs : ∀ x, foldedSetIterable iter X.env x = pure x)
    (hne : ∀ z, W.e = some z → z.i ∉ own.map (·.2) := by first | (intro _ h; cases h; done) | (intro _ h; cases h; decide)) : SE X W (.DictComp kx vx [⟨tg, iter, ifs, 0⟩] scope pos) (fDcK (own.map (·.2)) f y t ct fk fv) :=
  pe_weak (pe_unlockAt (pe_dc (tt := TOf X.K X.mg (WF W) RB ct) (tk := TOf X.K X.mg (WF W) (RD X.K X.mg) fk) (tv := TOf X.K X.mg (WF W) (RD X.K X.mg) fv) hc hN hi ok hg ht hk he hfs)) fun σ H Q ⟨m, sg, st, e, rm, rs, hp⟩ => by
    subst e
    exact tDcK_of hw hne rm rs hp
/-! sorted(d): the keys of a dict, sorted -/
open Classical in
noncomputable def bSortD : List D → Sto → Res D := fun l st => match l with
  | [.loc n] => match st[n]? with
    | some (.dict l) => if srtOk (l.map fun kv => kyD kv.1) then .ok (.lst (srtD (l.map fun kv => kyD kv.1))) st else .bad
    | _ => .bad
  | _ => .bad
theorem keys_reps {K : PySem.W.Frag} {mg : Str → Option Value} {r : List Addr} {G : Hp} : ∀ {l : List (Key × D)} {kvs : List (Key × V)}, kvs.map (·.1) = l.map (·.1) → Reps K mg r G (l.map fun kv => kyD kv.1) (kvs.map fun kv => kV kv.1)
  | [], [], _ => .nil
  | [], _ :: _, h => by simp at h
  | _ :: _, [], h => by simp at h
  | (k, d) :: l, (k', v) :: kvs, h => by
    simp at h
    obtain ⟨h1, h2⟩ := h
    subst h1
    exact .cons (kyD_rep k') (keys_reps h2)
theorem cal_sortD (hc : X.calm = true) (hu : X.A.units + 64 < cLine) : CalS X W (.builtin "sorted") bSortD := by
  intro pins s σ m st l vs us Q I rv rm ra hp
  unfold bSortD at hp
  split at hp
  · rename_i n
    obtain ⟨v, rfl, hv⟩ := reps1 ra
    split at hp
    · rename_i l hl
      split at hp
      · rename_i ho
        obtain ⟨a, kvs, rfl, k1, k2⟩ := dict_at rm hv hl
        rw [Vals.ref1 rv]
        obtain ⟨⟨ds, h1⟩, h2, h3, h4, h5⟩ := ho
        obtain ⟨_, hpy⟩ := toPys_map h1
        obtain ⟨z, lo, kvu, rk, hd⟩ := (show ObjOk X.prog X.w m.h s.heap a (.dK kvs) from I.hok a _ k1)
        obtain ⟨ep, hat⟩ := hd.dictAt
        have hlk : kvs.length = kvu.length := Paired.length rk
        have q : Reps X.K X.mg m.r m.g (l.map fun kv => kyD kv.1) (kvs.map fun kv => kV kv.1) := keys_reps k2.to.1
        refine sorted_col (β := D) (enc := pyD) (P := fun us s1 => Vals (kvs.map fun kv => kV kv.1) us ∧ ∃ h' tk, s1 = { s with heap := h', toks := tk } ∧ ∀ b o, s.heap.get? b = some o → h'.get? b = some o) (PyProof.Rows.args_sorted1 _) (fun E' Q' hq => ?_) fun us s1 hP => ?_
        · refine PySem.W.kdu_collect (PySem.W.kdl_dict (knd := mixKind X.prog X.w) (kvs := kvu) (ep := ep) lo) (I.ok.hd hc) hat (by rw [← hlk]; exact z) fun h' tk acc hk hacc => hq _ _ ⟨?_, h', tk, rfl, hk⟩
          have el : acc.toList.length = acc.size := by simp
          refine vals_of_at (by rw [List.length_map, el, hacc.1, hlk]) fun j x w h1 h2 => ?_
          obtain ⟨k, y, hky, hi⟩ := hacc.2 j w (by rw [← Array.getElem?_toList]; exact h2)
          have e1 : (kvs.map (·.1))[j]? = some k := by
            rw [KV.keys rk, List.getElem?_map, hky] <;> rfl
          have e2 : (kvs.map fun kv => kV kv.1)[j]? = some (kV k) := by
            have e3 : (kvs.map fun kv => kV kv.1) = (kvs.map (·.1)).map kV := by rw [List.map_map] <;> rfl
            rw [e3, List.getElem?_map, e1] <;> rfl
          rw [e2] at h1
          cases h1
          exact keyIs_rel hi
        · obtain ⟨rvs, h', tk, rfl, hk⟩ := hP
          have I1 : Inv X pins σ m.h { s with heap := h', toks := tk } := I.kept (t' := tk) hk
          refine ⟨fun (u : Value) (d : D) => ∃ v, RelV v u ∧ Rep X.K X.mg m.r m.g d v, _, each_of q rvs, each_reads I1 rm q rvs hpy, h2, h3, by rw [sizeLine_eq]; omega, fun x hx => by have := h4 x hx; omega, fun h2 out ep k2 hat hE => ?_⟩
          obtain ⟨vs', q', rv'⟩ := each_back hE
          have hlen : vs'.length ≤ sizeLine := by
            rw [← q'.length]
            show (srtD _).length ≤ _
            rw [srt_length, sizeLine_eq]; omega
          refine ⟨.ref h'.objs.size, upd m.h h'.objs.size (.lst vs'), I1.laid (t' := tk) k2 (Nat.le_refl _) ⟨hlen, out, ep, rv', hat⟩, rfl, ?_⟩
          exact hp.lay (α := D) rm (fun p hn => .lst upd_same (q'.mono (Ext.lay rm hn))) _ (I1.hok.fresh (Nat.le_refl _))
      · exact False.elim hp
    · exact False.elim hp
  · exact False.elim hp
end
end Sh
/-! Part ZT: d.get(k); list(d); list(range(a, b)); several clauses without a name -/
namespace Sh
open PySem L2 He
section
variable {X : Cx} {W : We} {a b e o : Expr} {f fa fb fo fe : EF} {pos apos cpos p p2 pos2 : Pos}
@[simp] def fGet1 (fo fe : EF) : EF := fun sg st => (fo sg st).bind fun x st1 => if isDict x st1 = true then ((fe sg st1).bind fun k st2 => dGet x k .non st2) else .bad
theorem se_get1 (hu : X.A.units + 1 < cLine) (ho : SE X W o fo) (he : SE X W e fe) (m1 : M1 X o "get" apos e cpos) : SE X W (.Call (.Attribute o "get" apos) [e] [] cpos) (fGet1 fo fe) :=
  pe_weak (pe_dget1 hu ho he m1) fun σ H Q ⟨m, sg, st, em, rm, rs, hp⟩ => ⟨m, sg, st, em, rm, rs, hp.bindc fun m1 x v st1 e1 r1 q1 hp1 => by
    split at hp1
    · rename_i hd
      obtain ⟨a, rfl, ia⟩ := isDict_at r1 q1 hd
      refine ⟨a, rfl, ia, m1, sg, st1, rfl, r1, rs.mono e1, hp1.bindc fun m2 k kv st2 e2 r2 q2 hp2 => ?_⟩
      unfold dGet at hp2
      split at hp2
      · rename_i n k' hk
        split at hp2
        · rename_i l hl
          obtain ⟨a', kvs, ea, h2, h3⟩ := dict_rd r2 (q1.mono e2) hl
          cases ea
          have := key_rep q2 hk
          subst this
          rcases h3.get k' with ⟨g1, g2⟩ | ⟨d, v, g1, g2, g3⟩
          · rw [g1] at hp2
            exact ⟨none, by rw [← g2]; exact DGet.kR h2, hp2.okc r2 .non⟩
          · rw [g1] at hp2
            exact ⟨some v, by rw [← g2]; exact DGet.kR h2, hp2.okc r2 g3⟩
        · exact False.elim hp2
      · exact False.elim hp2
    · exact False.elim hp1⟩
/-- list(d): the keys -/
def bListK : List D → Sto → Res D
  | [.loc n], st => match st[n]? with
    | some (.dict l) => .ok (.lst (l.map fun kv => kyD kv.1)) st
    | _ => .bad
  | _, _ => .bad
def bListKN : List D → Sto → Res D
  | [.loc n], st => match st[n]? with
    | some (.dict l) => .ok (.loc st.length) (st ++ [.lst (l.map fun kv => kyD kv.1)])
    | _ => .bad
  | _, _ => .bad
theorem fits_listK : FitsL X W rListD bListK := by
  intro m st σ l vs Q rm ra hp
  unfold bListK at hp
  split at hp
  · rename_i n
    obtain ⟨v, rfl, h1⟩ := reps1 ra
    split at hp
    · rename_i l hl
      obtain ⟨a, kvs, rfl, k1, k2⟩ := dict_at rm h1 hl
      refine ⟨a, kvs, rfl, k1, fun q hq => ?_⟩
      exact hp.lay (α := D) (R' := RD X.K X.mg) (o := .lst (kvs.map fun kv => kV kv.1)) rm (fun q hq => .lst upd_same ((keys_reps k2.to.1).mono (Ext.lay rm hq))) q hq
    · exact False.elim hp
  · exact False.elim hp
theorem fits_listKN : FitsL X W rListD bListKN := by
  intro m st σ l vs Q rm ra hp
  unfold bListKN at hp
  split at hp
  · rename_i n
    obtain ⟨v, rfl, h1⟩ := reps1 ra
    split at hp
    · rename_i l hl
      obtain ⟨a, kvs, rfl, k1, k2⟩ := dict_at rm h1 hl
      refine ⟨a, kvs, rfl, k1, fun q hq => ?_⟩
      exact post_new hp rm (keys_reps k2.to.1) q hq
    · exact False.elim hp
  · exact False.elim hp
theorem se_listRg2 (hc : X.calm = true) (hg : Gl X "list") (hm : X.mg "list" = none) (hg2 : Gl X "range") (hm2 : X.mg "range" = none) (ha : SE X W a fa) (hb : SE X W b fb) (na : starEach [a, b] X.env = (false, eval a X.env) :: starEach [b] X.env := by rfl)
    (nb : starEach [b] X.env = (false, eval b X.env) :: starEach [] X.env := by rfl) (hp : (backTo pos2 (starEach [b] X.env)).any (·.1) = false := by rfl)
    (nc : starEach [.Call (.Name "range" p2) [a, b] [] pos2] X.env = (false, eval (.Call (.Name "range" p2) [a, b] [] pos2) X.env) :: starEach [] X.env := by rfl) : SE X W (.Call (.Name "list" p) [.Call (.Name "range" p2) [a, b] [] pos2] [] pos) (fRg2 kRgL fa fb) :=
  pe_weak (pe_listRg hc hg hm (prg_2 hg2 hm2 ha hb na nb hp) nc) fun _ _ _ h => tRg2_of krg_l h
theorem se_listRgN2 (hc : X.calm = true) (hg : Gl X "list") (hm : X.mg "list" = none) (hg2 : Gl X "range") (hm2 : X.mg "range" = none) (ha : SE X W a fa) (hb : SE X W b fb) (na : starEach [a, b] X.env = (false, eval a X.env) :: starEach [b] X.env := by rfl)
    (nb : starEach [b] X.env = (false, eval b X.env) :: starEach [] X.env := by rfl) (hp : (backTo pos2 (starEach [b] X.env)).any (·.1) = false := by rfl)
    (nc : starEach [.Call (.Name "range" p2) [a, b] [] pos2] X.env = (false, eval (.Call (.Name "range" p2) [a, b] [] pos2) X.env) :: starEach [] X.env := by rfl) : SE X W (.Call (.Name "list" p) [.Call (.Name "range" p2) [a, b] [] pos2] [] pos) (fRg2 kRgLN fa fb) :=
  pe_weak (pe_listRg hc hg hm (prg_2 hg2 hm2 ha hb na nb hp) nc) fun _ _ _ h => tRg2_of krg_n h
end
/-! try: several clauses, none with a name -/
structure Co where
  hc : Nat → Option Bool
  su : SF
@[simp] def Flw.noexc : Flw → Flw
  | .exc _ _ _ _ => .bad
  | r => r
def pickO : List Co → Nat → Option D → Sg → Sto → Flw
  | [], c, o, sg, st => .exc c o sg st
  | k :: r, c, o, sg, st => match k.hc c with
    | some true => (k.su sg st).noexc
    | some false => pickO r c o sg st
    | none => .bad
def sTryO (g : SF) (l : List Co) : SF := fun sg st => match g sg st with
  | .exc c o sg1 st1 => pickO l c o sg1 st1
  | r => r
def WN0 : We := ⟨fun _ _ _ _ => False, none⟩
theorem noexc_ok {K : PySem.W.Frag} {mg : Str → Option Value} {w : WX} {m1 : Hw} {D : Ends} {z : Flw} (h : PostS K mg ⟨w, none⟩ m1 D z.noexc) : PostS K mg WN0 m1 D z := by
  cases z with
  | nx sg st => exact h
  | brk sg st => exact h
  | cnt sg st => exact h
  | ret d st => exact h
  | exc c o sg st => exact False.elim h
  | bad => exact False.elim h
def Co.z (X : Cx) (k : Co) (cv : Value) : Value × (Addr → Value → Option Addr → TS) := (cv, fun a cls d D σ H => SOf X.K X.mg WN0 k.su D σ H)
inductive CosOk (X : Cx) : List ExceptHandler → List Co → List (Value × (Addr → Value → Option Addr → TS)) → Prop
  | nil : CosOk X [] [] []
  | cons {xn : Str} {cv : Value} {k : Co} {b₀ : Stmt} {suite : List Stmt} {np pos' : Pos} {hds : List ExceptHandler} {l : List Co} {z : List (Value × (Addr → Value → Option Addr → TS))} (hnm : Names X xn cv)
      (hh : ∀ c b C, k.hc c = some b → X.mg (xName c) = some (.ref C) → PySem.W.exmOne X.K (.ref C) cv = some b)
      (hsu : ∀ (a : Addr) (oe : Obj) (pn : List (Addr × Obj)), SSs (X.suite a ((a, oe) :: pn)) WN0 (b₀ :: suite) k.su)
      (r : CosOk X hds l z) : CosOk X (.ExceptHandler (some (.Name xn np)) none (b₀ :: suite) pos' :: hds) (k :: l) (k.z X cv :: z)
section
variable {X : Cx} {body : List Stmt} {h₀ : ExceptHandler} {hds : List ExceptHandler} {l : List Co} {z : List (Value × (Addr → Value → Option Addr → TS))} {pos : Pos} {gs : SF} {w : WX}
theorem CosOk.ofs {hds : List ExceptHandler} (h : CosOk X hds l z) : HdsOk X hds z := by
  induction h with
  | nil => exact .nil
  | cons hnm hh hsu r ih => exact .cons hnm (fun a oe cls d pn hz hv => hsu a oe pn) ih
theorem CosOk.wish {hds : List ExceptHandler} (h : CosOk X hds l z) {m : Hw} {D : Ends} {c : Nat} {o : Option Sh.D} {sg : Sg} {st : Sto} (hp : PostS X.K X.mg ⟨w, none⟩ m D (pickO l c o sg st)) :
    ∀ m' σ' cls dx, Ext m m' → Rel X.K X.mg m' st → SgRep X.K X.mg none m' sg σ' → XRep X.K X.mg m' c o cls dx → wMany X.K w D z cls dx σ' m'.h := by
  induction h with
  | nil => exact hp
  | @cons xn cv k b₀ suite np pos' hds l z hnm hh hsu r ih =>
    intro m' σ' cls dx e' r' s' x'
    have x2 := x'
    obtain ⟨C, k1, k2, k3⟩ := x'
    subst k2
    unfold pickO at hp
    cases hq : k.hc c with
    | none => rw [hq] at hp; exact False.elim hp
    | some b =>
      rw [hq] at hp
      refine ⟨b, hh c b C hq k1, fun hbt a ha => ?_, fun hbf => ?_⟩
      · subst hbt
        dsimp only at hp
        exact ⟨m', sg, st, rfl, r', s', noexc_ok (PostS.mono hp e')⟩
      · subst hbf
        exact ih hp m' σ' (.ref C) dx e' r' s' x2
theorem ss_tryO (hs : X.stack = X.env :: X.outer) (hf : X.env.frame = some X.env.locals) (tk : Takes X w)
    (hb : ∀ (W' : WX) (pn : List (Addr × Obj)) (xe : Value → Shared → Prop), Takes (X.tr pn xe) W' → PassesOwn (model X.prog X.w) X.A X.env xe → SSs (X.tr pn xe) ⟨W', none⟩ body gs) (hh : CosOk X (h₀ :: hds) l z) :
    SS X ⟨w, none⟩ (.Try body (h₀ :: hds) [] [] pos) (sTryO gs l) :=
  ps_weak (ps_try_many (tb := fun W' => SOf X.K X.mg ⟨W', none⟩ gs) hs hf tk hb hh.ofs) fun D σ H ⟨m, sg, st, e, rm, rs, hp⟩ => ⟨m, sg, st, e, rm, rs, by
    unfold sTryO at hp
    cases hg : gs sg st with
    | exc c o sg1 st1 =>
      rw [hg] at hp
      exact hh.wish hp
    | nx sg1 st1 => rw [hg] at hp; exact hp
    | ret d st1 => rw [hg] at hp; exact hp
    | brk sg1 st1 => rw [hg] at hp; exact hp
    | cnt sg1 st1 => rw [hg] at hp; exact hp
    | bad => rw [hg] at hp; exact hp⟩
end
/-! a dict that is walked is locked; the suite may change other things of the store -/
def Flw.sto (s : Sto) : Flw → Sto
  | .nx _ st => st
  | .ret _ st => st
  | .brk _ st => st
  | .cnt _ st => st
  | _ => s
open Classical in
noncomputable def sLock2 (fo : EF) (g : SF) : SF := fun sg st => match fo sg st with
  | .ok (.loc n) _ => match st[n]? with
    | some (.dict l) => if h : ∃ w : Flw, (w.sto st)[n]? = some (.dict l) ∧ ∀ o kvs, g sg (lockAt st n l o kvs) = w.atSt (lockAt (w.sto st) n l o kvs) then (Classical.choose h).atSt ((Classical.choose h).sto st) else .bad
    | _ => .bad
  | _ => .bad
theorem sLock2_eq {fo : EF} {g : SF} {sg : Sg} {st st' st2 : Sto} {n : Nat} {l : List (Key × D)} {w : Flw} (e : fo sg st = .ok (.loc n) st') (hn : st[n]? = some (.dict l)) (hw : w.sto st = st2) (h2 : st2[n]? = some (.dict l)) (h : ∀ o kvs, g sg (lockAt st n l o kvs) = w.atSt (lockAt st2 n l o kvs)) : sLock2 fo g sg st = w.atSt st2 := by
  subst hw
  unfold sLock2
  rw [e]
  dsimp only
  rw [hn]
  dsimp only
  have hx : ∃ w : Flw, (w.sto st)[n]? = some (.dict l) ∧ ∀ o kvs, g sg (lockAt st n l o kvs) = w.atSt (lockAt (w.sto st) n l o kvs) := ⟨w, h2, h⟩
  rw [dif_pos hx]
  let o : Obj := { cls := .type "dict", dict := none, data := .dict #[] 0, slots := #[] }
  obtain ⟨b2, a⟩ := Classical.choose_spec hx
  generalize Classical.choose hx = c at a b2
  have z := (a o []).symm.trans (h o [])
  have key : ∀ {x y : Sto}, x[n]? = some (.dict l) → y[n]? = some (.dict l) → lockAt x n l o [] = lockAt y n l o [] → x = y := fun {x y} hx hy hz => by
    have back : ∀ {s : Sto}, s[n]? = some (.dict l) → (lockAt s n l o []).set n (.dict l) = s := fun {s} hs => by
      unfold lockAt
      rw [List.set_set]
      have := (List.getElem?_eq_some_iff.mp hs).2
      rw [← this, List.set_getElem_self]
    rw [← back hx, hz, back hy]
  cases c with
  | nx sg1 s1 =>
    cases w with
    | nx sg2 s2 =>
      simp only [Flw.atSt, Flw.sto, Flw.nx.injEq] at z ⊢
      exact ⟨z.1, key b2 h2 z.2⟩
    | _ => simp only [Flw.atSt] at z; cases z
  | ret d1 s1 =>
    cases w with
    | ret d2 s2 =>
      simp only [Flw.atSt, Flw.sto, Flw.ret.injEq] at z ⊢
      exact ⟨z.1, key b2 h2 z.2⟩
    | _ => simp only [Flw.atSt] at z; cases z
  | brk sg1 s1 =>
    cases w with
    | brk sg2 s2 =>
      simp only [Flw.atSt, Flw.sto, Flw.brk.injEq] at z ⊢
      exact ⟨z.1, key b2 h2 z.2⟩
    | _ => simp only [Flw.atSt] at z; cases z
  | cnt sg1 s1 =>
    cases w with
    | cnt sg2 s2 =>
      simp only [Flw.atSt, Flw.sto, Flw.cnt.injEq] at z ⊢
      exact ⟨z.1, key b2 h2 z.2⟩
    | _ => simp only [Flw.atSt] at z; cases z
  | exc _ _ _ _ => cases w <;> simp only [Flw.atSt] at z ⊢ <;> cases z
  | bad => cases w <;> simp only [Flw.atSt] at z ⊢ <;> cases z
section
variable {X : Cx} {W : We} {s : Stmt}
theorem ss_lock2 {fo : EF} {g : SF} (h : SS X W s g) : SS X W s (sLock2 fo g) :=
  ps_weak (ps_lock h) fun D σ H ⟨m, sg, st, e, rm, rs, hp⟩ => by
    subst e
    unfold sLock2 at hp
    split at hp
    · rename_i n st' hf
      split at hp
      · rename_i l hl
        split at hp
        · rename_i hx
          have hn : n < st.length := (List.getElem?_eq_some_iff.mp hl).1
          have hr : n < m.r.length := by rw [rm.len]; exact hn
          have ra : m.r[n]? = some m.r[n] := List.getElem?_eq_getElem hr
          obtain ⟨kvs, k1, k2, k3⟩ := rm.obj n m.r[n] _ ra hl
          generalize m.r[n] = a at ra k1
          have am : a ∈ m.r := List.mem_of_getElem? ra
          refine ⟨a, .dK kvs, k1, trivial, fun od => ?_⟩
          obtain ⟨b2, w⟩ := Classical.choose_spec hx
          have w := w od kvs
          have e1 : Ext m (m.put a (.frz od (.dK kvs))) := Ext.put am
          have r1 : Rel X.K X.mg (m.put a (.frz od (.dK kvs))) (lockAt st n l od kvs) := rm.put ra ⟨upd_same, k2, k3⟩
          refine ⟨m.put a (.frz od (.dK kvs)), sg, lockAt st n l od kvs, rfl, r1, rs.mono e1, ?_⟩
          rw [w]
          generalize Classical.choose hx = c at hp b2
          have key : ∀ (s2 : Sto), s2[n]? = some (.dict l) → ∀ m2 : Hw, Ext (m.put a (.frz od (.dK kvs))) m2 → Rel X.K X.mg m2 (lockAt s2 n l od kvs) → m2.h a = some (.frz od (.dK kvs)) ∧ Ext m (m2.put a (.dK kvs)) ∧ Ext m2 (m2.put a (.dK kvs)) ∧ Rel X.K X.mg (m2.put a (.dK kvs)) s2 := fun s2 h2 m2 e2 r2 => by
            have hn2 : n < s2.length := (List.getElem?_eq_some_iff.mp h2).1
            have ln : (lockAt s2 n l od kvs)[n]? = some (.lock l od kvs) := by unfold lockAt; simp [hn2]
            have back : (lockAt s2 n l od kvs).set n (.dict l) = s2 := by
              unfold lockAt
              rw [List.set_set]
              have := (List.getElem?_eq_some_iff.mp h2).2
              rw [← this, List.set_getElem_self]
            have ra2 : m2.r[n]? = some a := e2.at_ (e1.at_ ra)
            obtain ⟨j1, j2, j3⟩ := r2.obj n a _ ra2 ln
            have e3 : Ext m2 (m2.put a (.dK kvs)) := Ext.put (List.mem_of_getElem? ra2)
            refine ⟨j1, (e1.trans e2).trans e3, e3, ?_⟩
            have := r2.put (so := .dict l) ra2 ⟨kvs, upd_same, j2, j3⟩
            rwa [back] at this
          cases c with
          | nx sg2 s2 => exact fun m2 σ2 e2 r2 z2 => let ⟨a1, a2, a3, a4⟩ := key s2 b2 m2 e2 r2; ⟨a1, hp _ σ2 a2 a4 (z2.mono a3)⟩
          | ret d s2 => exact fun m2 v e2 r2 q2 => let ⟨a1, a2, a3, a4⟩ := key s2 b2 m2 e2 r2; ⟨a1, hp _ v a2 a4 (q2.mono a3)⟩
          | brk sg2 s2 => exact fun m2 σ2 e2 r2 z2 => let ⟨a1, a2, a3, a4⟩ := key s2 b2 m2 e2 r2; ⟨a1, hp _ σ2 a2 a4 (z2.mono a3)⟩
          | cnt sg2 s2 => exact fun m2 σ2 e2 r2 z2 => let ⟨a1, a2, a3, a4⟩ := key s2 b2 m2 e2 r2; ⟨a1, hp _ σ2 a2 a4 (z2.mono a3)⟩
          | exc _ _ _ _ => exact False.elim hp
          | bad => exact False.elim hp
        · exact False.elim hp
      · exact False.elim hp
    · exact False.elim hp
end
end Sh
/-! Part ZU: a text times a number -/
namespace L2
open PySem PySem.Spec PyProof.Rows
def repS (a : Str) (n : Nat) : Str := ⟨(List.replicate n a.cps).foldl (· ++ ·) #[]⟩
theorem repS_one (a : Str) : repS a 1 = a := by
  unfold repS
  show (⟨#[] ++ a.cps⟩ : Str) = a
  rw [Array.empty_append]
def rRepS : R2 := fun x y H Q => ∃ a k, x = .str a ∧ y = .int k ∧ 1 ≤ k ∧ k ≤ 1000 ∧ 1 ≤ a.length ∧ a.length ≤ 1000 ∧ Q (.str (repS a k.toNat)) H
theorem op_repS {X : Cx} : OpR X (binaryOp .Mult) rRepS := by
  intro pins s σ H x y v u Q I rx ry h
  obtain ⟨a, k, rfl, rfl, h1, h2, h3, h4, q⟩ := h
  obtain ⟨t, rfl⟩ := rx
  obtain ⟨t', rfl⟩ := ry
  have p63 : (2 : Int) ^ 63 = 9223372036854775808 := by decide
  have tl : Builtin.Str.tooLong (a.length * k.toNat) = false := by
    have hle : a.length * k.toNat ≤ sizeLine := by
      rw [sizeLine_eq]
      exact Nat.le_trans (Nat.mul_le_mul h4 (show k.toNat ≤ 1000 by omega)) (by decide)
    unfold Builtin.Str.tooLong
    exact decide_eq_false (by omega)
  refine PySem.P.mul_str ?_ (fun _ _ => ?_) (fun _ _ => ?_) ?_
  · rw [Bool.or_eq_false_iff, decide_eq_false_iff_not, decide_eq_false_iff_not, p63]
    omega
  · rw [p63]
    have : (1000 : Int) ≤ (9223372036854775808 - 1) / k := by
      refine Int.le_ediv_of_mul_le (by omega) ?_
      omega
    omega
  · exact tl
  · rw [if_neg (by omega)]
    by_cases c : k = 1
    · subst c
      have e : ((1 : Int) == 1 || a.length == 0) = true := rfl
      rw [if_pos e]
      refine ⟨.str a, H, I, ⟨t, rfl⟩, ?_⟩
      rw [show (1 : Int).toNat = 1 from rfl, repS_one] at q
      exact q
    · have e : (k == 1 || a.length == 0) = false := by
        rw [Bool.or_eq_false_iff]
        exact ⟨by simp [c], by simp; omega⟩
      rw [e, if_neg Bool.false_ne_true]
      exact ⟨fits_reps tl, .str (repS a k.toNat), H, I.tok _, ⟨s.toks, rfl⟩, q⟩
end L2
namespace Sh
open PySem L2 He
section
variable {X : Cx} {W : We}
def dRepS : D → D → Sto → Res D
  | .str a, .int k, st => if 1 ≤ k ∧ k ≤ 1000 ∧ 1 ≤ a.length ∧ a.length ≤ 1000 then .ok (.str (repS a k.toNat)) st else .bad
  | _, _, _ => .bad
theorem fits_repS : Fits2 X W rRepS dRepS := by
  intro m st σ x y v w Q rm ra rb hp
  unfold dRepS at hp
  split at hp
  · cases ra; cases rb
    split at hp
    · rename_i h
      exact ⟨_, _, rfl, rfl, h.1, h.2.1, h.2.2.1, h.2.2.2, hp.okc rm (.str _)⟩
    · exact False.elim hp
  · exact False.elim hp
@[simp] theorem ev_dRepS (a : Str) (k : Int) (st : Sto) : dRepS (.str a) (.int k) st = if 1 ≤ k ∧ k ≤ 1000 ∧ 1 ≤ a.length ∧ a.length ≤ 1000 then .ok (.str (repS a k.toNat)) st else .bad := rfl
end
end Sh
/-! Part ZV: a list compared with the empty list, whatever its items -/
namespace PySem.SeqAt
open AutoSeq1 (wpAny_loadPart')
open MeetsSeq MeetsSeq2 MeetsSeq3 SeqRoads2
section
variable {prog : Program} {w : World}
theorem zv_eq_diff (l b : Addr) (items items2 : Array Value) (n n2 : Nat) (dd dd2 : Option Addr) (sl sl2 : Array (Option Value)) (hsz : items.size ≠ items2.size) :
    MeetsIn prog w (Builtin.«list.__eq__» ⟨[.ref l, .ref b], []⟩)
      (fun A R s => s.heap.get? l = some { cls := .type "list", dict := dd, data := .seq items n, slots := sl } ∧ s.heap.get? b = some { cls := .type "list", dict := dd2, data := .seq items2 n2, slots := sl2 } ∧
        R (.ok (.ret (.bool false))) s) := by
  intro A R s h
  obtain ⟨hp, g, d, tk, os⟩ := s; obtain ⟨hl, hb, h⟩ := h
  have f3 := AutoSeq1.sub_list_list
  have hne : (items.size != items2.size) = true := by simp [hsz]
  wp_walk using wpAny_loadPart' hl, wpAny_loadPart' hb
  have e : (CmpOp.Eq == CmpOp.NotEq) = false := by decide
  rw [← e] at h
  simpa using h
theorem zv_ne_diff (l b : Addr) (items items2 : Array Value) (n n2 : Nat) (dd dd2 : Option Addr) (sl sl2 : Array (Option Value)) (hsz : items.size ≠ items2.size) :
    MeetsIn prog w (Builtin.«list.__ne__» ⟨[.ref l, .ref b], []⟩)
      (fun A R s => s.heap.get? l = some { cls := .type "list", dict := dd, data := .seq items n, slots := sl } ∧ s.heap.get? b = some { cls := .type "list", dict := dd2, data := .seq items2 n2, slots := sl2 } ∧
        R (.ok (.ret (.bool true))) s) := by
  intro A R s h
  obtain ⟨hp, g, d, tk, os⟩ := s; obtain ⟨hl, hb, h⟩ := h
  have f3 := AutoSeq1.sub_list_list
  have hne : (items.size != items2.size) = true := by simp [hsz]
  wp_walk using wpAny_loadPart' hl, wpAny_loadPart' hb
  simpa using h
theorem zv_rc_diff {A : Around} {s : Shared} {l b : Addr} {items items2 : Array Value} (hl : s.heap.IsList l items) (hb : s.heap.IsList b items2) (hsz : items.size ≠ items2.size) (hu : A.units < cLine)
    (E Q : Value → Shared → Prop) (h : Q (.bool false) s) : wpAny (model prog w) A (richCompare .Eq (.ref l) (.ref b)) Q E s := by
  obtain ⟨⟨cls, dd, data, sl⟩, ho, hc, n, hd⟩ := id hl
  obtain ⟨⟨cls2, dd2, data2, sl2⟩, ho2, hc2, n2, hd2⟩ := id hb
  simp only at hc hd hc2 hd2
  subst hc hd hc2 hd2
  have ta : s.TypeIs (.ref l) "list" := ⟨_, ho, rfl⟩
  have tb : s.TypeIs (.ref b) "list" := ⟨_, ho2, rfl⟩
  exact wpAny_richCompare_same_room (op := .Eq) ta tb F.slot_list_eq (call_meetsIn F.slot_list_eq ta F.entry_list_eq (F.args_list_eq_2 _ _) (zv_eq_diff l b items items2 n n2 dd dd2 sl sl2 hsz)
    ⟨ho, ho2, show Value.bool false ≠ Value.notImplemented ∧ Q (.bool false) s from ⟨(fun x => nomatch x), h⟩⟩) hu
theorem zv_rn_diff {A : Around} {s : Shared} {l b : Addr} {items items2 : Array Value} (hl : s.heap.IsList l items) (hb : s.heap.IsList b items2) (hsz : items.size ≠ items2.size) (hu : A.units < cLine)
    (E Q : Value → Shared → Prop) (h : Q (.bool true) s) : wpAny (model prog w) A (richCompare .NotEq (.ref l) (.ref b)) Q E s := by
  obtain ⟨⟨cls, dd, data, sl⟩, ho, hc, n, hd⟩ := id hl
  obtain ⟨⟨cls2, dd2, data2, sl2⟩, ho2, hc2, n2, hd2⟩ := id hb
  simp only at hc hd hc2 hd2
  subst hc hd hc2 hd2
  have ta : s.TypeIs (.ref l) "list" := ⟨_, ho, rfl⟩
  have tb : s.TypeIs (.ref b) "list" := ⟨_, ho2, rfl⟩
  exact wpAny_richCompare_same_room (op := .NotEq) ta tb F.slot_list_ne (call_meetsIn F.slot_list_ne ta F.entry_list_ne (F.args_list_ne_2 _ _) (zv_ne_diff l b items items2 n n2 dd dd2 sl sl2 hsz)
    ⟨ho, ho2, show Value.bool true ≠ Value.notImplemented ∧ Q (.bool true) s from ⟨(fun x => nomatch x), h⟩⟩) hu
end
end PySem.SeqAt
namespace L2
open PySem PySem.Spec PyProof.Rows
section
variable {X : Cx}
def rEqE (K : PySem.W.Frag) (ne : Bool) : R2 := fun x y H Q => ∃ a b xs, x = .ref a ∧ y = .ref b ∧ SqL K H a xs ∧ SqL K H b [] ∧ (xs = [] → ne = false) ∧ Q (.bl (xs.isEmpty != ne)) H
theorem op_eqE (hu : X.A.units + 64 < cLine) : OpR X (compareOp .Eq) (rEqE X.K false) := by
  intro pins s σ H x y v u Q I rx ry h
  obtain ⟨a, b, xs, rfl, rfl, ha, hb, _, q⟩ := h
  cases (show v = Value.ref a from rx)
  cases (show u = Value.ref b from ry)
  obtain ⟨us, r1, p1, _⟩ := I.list ha
  obtain ⟨ws, r2, p2, _⟩ := I.list hb
  have e2 : ws = [] := by cases r2; rfl
  subst e2
  cases xs with
  | nil =>
    cases r1
    refine SeqAt.rcP_lists (e := fun _ => true) p1.isList p2.isList rfl (by omega) (fun j h1 h2 => absurd h1 (Nat.not_lt_zero j)) _ _ ⟨.bl true, H, I, rfl, q⟩
  | cons z zs =>
    cases r1 with
    | cons rz rzs =>
      refine SeqAt.zv_rc_diff p1.isList p2.isList (by simp) (by omega) _ _ ⟨.bl false, H, I, rfl, q⟩
theorem op_neE (hu : X.A.units + 64 < cLine) : OpR X (compareOp .NotEq) (rEqE X.K true) := by
  intro pins s σ H x y v u Q I rx ry h
  obtain ⟨a, b, xs, rfl, rfl, ha, hb, hne, q⟩ := h
  cases (show v = Value.ref a from rx)
  cases (show u = Value.ref b from ry)
  obtain ⟨us, r1, p1, _⟩ := I.list ha
  obtain ⟨ws, r2, p2, _⟩ := I.list hb
  have e2 : ws = [] := by cases r2; rfl
  subst e2
  cases xs with
  | nil => cases (hne rfl)
  | cons z zs =>
    cases r1 with
    | cons rz rzs =>
      refine SeqAt.zv_rn_diff p1.isList p2.isList (by simp) (by omega) _ _ ⟨.bl true, H, I, rfl, q⟩
end
end L2
namespace Sh
open PySem L2 He
section
variable {X : Cx} {W : We}
/-- x == [], whatever the items -/
def dEqE (x y : D) (st : Sto) : Res D := match lstOf x st, lstOf y st with
  | some l, some [] => .ok (.bl l.isEmpty) st
  | _, _ => .bad
theorem fits_eqE : Fits2 X W (rEqE X.K false) dEqE := by
  intro m st σ x y v w Q rm ra rb hp
  unfold dEqE at hp
  split at hp
  · rename_i l h1 h2
    obtain ⟨p, vs, rfl, k1, k2⟩ := lst_of rm ra h1
    obtain ⟨q, ws, rfl, k3, k4⟩ := lst_of rm rb h2
    cases k4
    refine ⟨p, q, vs, rfl, rfl, k1, k3, fun _ => rfl, ?_⟩
    have e : vs.isEmpty = l.isEmpty := by
      cases k2 with
      | nil => rfl
      | cons a b => rfl
    rw [e]
    have z := hp.okc (v := .bl l.isEmpty) rm (.bl _)
    cases hb : l.isEmpty <;> rw [hb] at z <;> exact z
  · exact False.elim hp
end
end Sh
/-! Part ZW: d.get(k) where k may be None -/
namespace L2
open PySem PySem.Spec PyProof.Rows
section
variable {X : Cx} {pins : List (Addr × Obj)} {σ : St} {H : Hp} {s : Shared} {a : Addr} {kvs : List (Key × V)} {A : Around} {E : Value → Shared → Prop}
theorem d_getNone {Q : Value → Shared → Prop} (I : Inv X pins σ H s) (e : Rd H a (.dK kvs)) (h : ∀ s', Inv X pins σ H s' → Q .none s') : wpAny (model X.prog X.w) A (call (.builtin "dict.get") [.ref a, .none]) Q E s := by
  obtain ⟨_, hd, vs, _, dd⟩ := dk_rd I.hok e
  obtain ⟨f, hm, hf⟩ := none_map dd
  refine call_meetsIn PySem.F.slot_dict_get dd.typeIs PySem.F.entry_dict_get (PySem.F.args_dict_get_2 _ _) (meets_dict_get (noneKind X.prog X.w) a (show (noneKind X.prog X.w).is none .none = true from rfl) hd) ⟨f, hm, ?_⟩
  rw [hf]
  exact h _ (I.tok _)
end
def tDGetN (td ty : TE) : TE := fun σ H Q => td σ H fun x H1 => ∃ a, x = .ref a ∧ IsD H1 a ∧ ty σ H1 fun y H2 => (∃ o, DGet H2 a y o ∧ Q (o.getD .non) H2) ∨ ∃ kvs, y = .non ∧ Rd H2 a (.dK kvs) ∧ Q .non H2
section
variable {X : Cx} {o e : Expr} {apos cpos : Pos} {td ty : TE}
theorem pe_dgetN (hu : X.A.units + 1 < cLine) (ho : PE X o td) (he : PE X e ty) (m : M1 X o "get" apos e cpos) : PE X (.Call (.Attribute o "get" apos) [e] [] cpos) (tDGetN td ty) := by
  refine ⟨fun pins s σ H Q I h => ?_⟩
  refine wpAny_Call_method m.base m.few m.line PySem.F.plainAttrs_dict PySem.F.slot_dict_get PySem.F.type_dict_get (thn (ho.run pins s σ H _ I h) fun u s1 ⟨x, H1, I1, rx, a, ex, d, q1⟩ => ?_)
  subst ex
  obtain rfl : u = Value.ref a := rx
  obtain ⟨t1, t2, _⟩ := isD_at I1 d
  refine ⟨t1, t2, ?_⟩
  rw [m.trees]
  refine Calls.callWith_builtin rfl (Calls.evalArgs_plain (Calls.spliced_cons (thn (he.run pins s1 σ H1 _ I1 q1) fun iv s2 ⟨y, H2, I2, ry, q2⟩ => Calls.spliced_nil ?_)))
  rcases q2 with ⟨ov, g, q2⟩ | ⟨kvs, ey, g, q2⟩
  · exact d_get1 hu I2 g ry fun w' s3 I3 rw' => ⟨_, H2, I3, rw', q2⟩
  · subst ey
    obtain rfl : iv = Value.none := ry
    exact d_getNone I2 g fun s3 I3 => ⟨.non, H2, I3, rfl, q2⟩
end
end L2
namespace Sh
open PySem L2 He
section
variable {X : Cx} {W : We} {e o : Expr} {fo fe : EF} {apos cpos : Pos}
def isNon : D → Bool
  | .non => true
  | _ => false
def noneGet (x : D) (st : Sto) : Res D := match x with
  | .loc n => match kvS st[n]? with
    | some _ => .ok .non st
    | none => .bad
  | _ => .bad
def dGetN (x k : D) (st : Sto) : Res D := if isNon k = true then noneGet x st else dGet x k .non st
@[simp] theorem ev_dGetN_non (n : Nat) (st : Sto) : dGetN (.loc n) .non st = match kvS st[n]? with
      | some _ => .ok .non st
      | none => .bad := rfl
@[simp] theorem ev_dGetN_str (x : D) (k : Str) (st : Sto) : dGetN x (.str k) st = dGet x (.str k) .non st := rfl
@[simp] theorem ev_dGetN_int (x : D) (k : Int) (st : Sto) : dGetN x (.int k) st = dGet x (.int k) .non st := rfl
@[simp] def fGetN (fo fe : EF) : EF := fun sg st => (fo sg st).bind fun x st1 => if isDict x st1 = true then ((fe sg st1).bind fun k st2 => dGetN x k st2) else .bad
theorem se_getN (hu : X.A.units + 1 < cLine) (ho : SE X W o fo) (he : SE X W e fe) (m1 : M1 X o "get" apos e cpos) : SE X W (.Call (.Attribute o "get" apos) [e] [] cpos) (fGetN fo fe) :=
  pe_weak (pe_dgetN hu ho he m1) fun σ H Q ⟨m, sg, st, em, rm, rs, hp⟩ => ⟨m, sg, st, em, rm, rs, hp.bindc fun m1 x v st1 e1 r1 q1 hp1 => by
    split at hp1
    · rename_i hd
      obtain ⟨a, rfl, ia⟩ := isDict_at r1 q1 hd
      refine ⟨a, rfl, ia, m1, sg, st1, rfl, r1, rs.mono e1, hp1.bindc fun m2 k kv st2 e2 r2 q2 hp2 => ?_⟩
      unfold dGetN at hp2
      split at hp2
      · rename_i hk0
        have hk1 : k = .non := by cases k <;> first | rfl | cases hk0
        subst hk1
        cases q2
        right
        unfold noneGet at hp2
        split at hp2
        · rename_i n
          split at hp2
          · rename_i l hl
            obtain ⟨a', kvs, ea, h2, h3⟩ := dict_rd r2 (q1.mono e2) hl
            cases ea
            exact ⟨kvs, rfl, h2, hp2.okc r2 .non⟩
          · exact False.elim hp2
        · exact False.elim hp2
      · left
        unfold dGet at hp2
        split at hp2
        · rename_i n k' hk
          split at hp2
          · rename_i l hl
            obtain ⟨a', kvs, ea, h2, h3⟩ := dict_rd r2 (q1.mono e2) hl
            cases ea
            have := key_rep q2 hk
            subst this
            rcases h3.get k' with ⟨g1, g2⟩ | ⟨d, v, g1, g2, g3⟩
            · rw [g1] at hp2
              exact ⟨none, by rw [← g2]; exact DGet.kR h2, hp2.okc r2 .non⟩
            · rw [g1] at hp2
              exact ⟨some v, by rw [← g2]; exact DGet.kR h2, hp2.okc r2 g3⟩
          · exact False.elim hp2
        · exact False.elim hp2
    · exact False.elim hp1⟩
end
end Sh
/-! Part ZX: a list unlike the empty list, whatever its items -/
namespace Sh
open PySem L2 He
section
variable {X : Cx} {W : We}

def rNeA (K : PySem.W.Frag) : R2 := fun x y H Q => rEqE K true x y H Q ∨ rNeP K x y H Q
theorem op_neA (hu : X.A.units + 64 < cLine) : OpR X (compareOp .NotEq) (rNeA X.K) := by
  intro pins s σ H x y v u Q I rx ry h
  rcases h with h | h
  · exact op_neE hu _ _ _ _ _ _ _ _ _ I rx ry h
  · exact op_neP hu _ _ _ _ _ _ _ _ _ I rx ry h
/-- x != [], whatever the items -/
def dNeE (x y : D) (st : Sto) : Res D := match lstOf x st, lstOf y st with
  | some (_ :: _), some [] => .ok (.bl true) st
  | _, _ => dNe x y st
theorem fits_neE : Fits2 X W (rNeA X.K) dNeE := by
  intro m st σ x y v w Q rm ra rb hp
  unfold dNeE at hp
  split at hp
  · rename_i a l h1 h2
    left
    obtain ⟨p, vs, rfl, k1, k2⟩ := lst_of rm ra h1
    obtain ⟨q, ws, rfl, k3, k4⟩ := lst_of rm rb h2
    cases k4
    cases k2 with
    | cons b c => exact ⟨p, q, _, rfl, rfl, k1, k3, fun z => (by cases z), hp.okc (v := .bl true) rm (.bl _)⟩
  · exact .inr (fits_ne _ _ _ _ _ _ _ _ rm ra rb hp)
end
end Sh
/-! Part ZY: tuples of flat data and dicts, all of them equal -/
namespace L2
open PySem PySem.Spec PyProof.Rows
section
variable {X : Cx}
def rEqT (K : PySem.W.Frag) : R2 := fun x y H Q => ∃ a b xs ys n, x = .ref a ∧ y = .ref b ∧ SqT K H a xs ∧ SqT K H b ys ∧ n ≤ 60 ∧ Paired (EqV K H n) xs ys ∧ Q (.bl true) H
theorem op_eqT (hu : X.A.units + 64 < cLine) : OpR X (compareOp .Eq) (rEqT X.K) := by
  intro pins s σ H x y v u Q I rx ry h
  obtain ⟨a, b, xs, ys, n, rfl, rfl, ha, hb, hn, hp, q⟩ := h
  cases (show v = Value.ref a from rx)
  cases (show u = Value.ref b from ry)
  obtain ⟨us, r1, p1, _⟩ := I.tuple ha
  obtain ⟨ws, r2, p2, _⟩ := I.tuple hb
  have hsz : us.toArray.size = ws.toArray.size := by
    rw [List.size_toArray, List.size_toArray, ← r1.length, ← r2.length]
    exact Paired.length hp
  refine SeqAt.rcIn_tuples (e := fun _ => true) p1 p2 (by omega) (fun j h1 h2 => ?_) ?_
  · have k : SeqAt.EqP X.prog X.w X.A.in1 s us.toArray[j] ws.toArray[j] true := by
      have k := items_run (eqV_run I n X.A.in1 (by show X.A.units + 1 + n < cLine; omega)) hp r1 r2 j (by simpa using h1) (by simpa using h2)
      simpa using k
    exact fun E Q hq => k E Q hq
  · have e : ((List.range (min us.toArray.size ws.toArray.size)).all fun _ => true) = true := List.all_eq_true.mpr fun _ _ => rfl
    rw [e, hsz]
    have e2 : (ws.toArray.size == ws.toArray.size) = true := by simp
    rw [e2]
    exact ⟨.bl true, H, I, rfl, q⟩
end
end L2
namespace Sh
open PySem L2 He
/-- alike: flat and the same, or dicts of the store with the same content -/
def eqIt (st : Sto) (x y : D) : Prop := (x = y ∧ dFlat x = true) ∨ ∃ n m l, x = .loc n ∧ y = .loc m ∧ st[n]? = some (.dict l) ∧ st[m]? = some (.dict l) ∧ (l.map (·.1)).Nodup ∧ ∀ kv ∈ l, dFlat kv.2 = true
def eqIts (st : Sto) : List D → List D → Prop
  | [], [] => True
  | x :: r, y :: q => eqIt st x y ∧ eqIts st r q
  | _, _ => False
open Classical in
/-- x == y, two tuples that are alike -/
noncomputable def dEqT (x y : D) (st : Sto) : Res D := match x, y with
  | .tup xs, .tup ys => if eqIts st xs ys then .ok (.bl true) st else .bad
  | _, _ => .bad
theorem dEqT_ok {xs ys : List D} {st : Sto} (h : eqIts st xs ys) : dEqT (.tup xs) (.tup ys) st = .ok (.bl true) st := by
  unfold dEqT
  dsimp only
  rw [if_pos h]
section
variable {X : Cx} {W : We}
theorem flat_rep2 {K : PySem.W.Frag} {mg : Str → Option Value} {r : List Addr} {G : Hp} {x : D} {v w : V} (h : dFlat x = true) (a : Rep K mg r G x v) (b : Rep K mg r G x w) : v = w ∧ flatB v = true := by
  cases x with
  | non => cases a; cases b; exact ⟨rfl, rfl⟩
  | bl c => cases a; cases b; exact ⟨rfl, rfl⟩
  | int i => cases a; cases b; exact ⟨rfl, rfl⟩
  | str s => cases a; cases b; exact ⟨rfl, rfl⟩
  | _ => simp [dFlat] at h
theorem dict_eqs {K : PySem.W.Frag} {mg : Str → Option Value} {r : List Addr} {G H : Hp} : ∀ {l : List (Key × D)} {ks ls : List (Key × V)}, (l.map (·.1)).Nodup → (∀ kv ∈ l, dFlat kv.2 = true) → ks.map (·.1) = l.map (·.1) → Reps K mg r G (l.map (·.2)) (ks.map (·.2)) → ls.map (·.1) = l.map (·.1) → Reps K mg r G (l.map (·.2)) (ls.map (·.2)) → ∀ p ∈ ks, ∃ u, valV ls p.1 = some u ∧ EqV K H 1 p.2 u
  | [], ks, ls, _, _, e1, _, _, _, p, hp => by
    have : ks = [] := by simpa using e1
    rw [this] at hp
    cases hp
  | kv :: l, [], ls, _, _, e1, _, _, _, p, hp => by cases hp
  | kv :: l, k :: ks, [], _, _, _, _, e2, _, p, hp => by simp at e2
  | kv :: l, k :: ks, z :: ls, nd, fl, e1, r1, e2, r2, p, hp => by
    rw [List.map_cons, List.nodup_cons] at nd
    rw [List.map_cons, List.map_cons] at e1 e2
    obtain ⟨e1a, e1b⟩ := List.cons.inj e1
    obtain ⟨e2a, e2b⟩ := List.cons.inj e2
    rw [List.map_cons, List.map_cons] at r1 r2
    cases r1 with
    | cons a1 a2 =>
      cases r2 with
      | cons b1 b2 =>
        rcases List.mem_cons.mp hp with rfl | hp
        · obtain ⟨q, f⟩ := flat_rep2 (fl kv List.mem_cons_self) a1 b1
          refine ⟨z.2, ?_, .inl ⟨q, f⟩⟩
          unfold valV
          rw [List.find?_cons, decide_eq_true (e2a.trans e1a.symm)]
          rfl
        · obtain ⟨u, h1, h2⟩ := dict_eqs (H := H) nd.2 (fun x hx => fl x (List.mem_cons_of_mem _ hx)) e1b a2 e2b b2 p hp
          refine ⟨u, ?_, h2⟩
          have hne : z.1 ≠ p.1 := fun e => nd.1 (by
            have : p.1 ∈ ks.map (·.1) := List.mem_map.mpr ⟨p, hp, rfl⟩
            rw [e1b] at this
            rw [← e2a, e]
            exact this)
          unfold valV at h1 ⊢
          rw [List.find?_cons, decide_eq_false hne]
          exact h1
theorem its_eq {m : Hw} {st : Sto} (rm : Rel X.K X.mg m st) : ∀ {xs ys : List D} {vs ws : List V}, eqIts st xs ys → Reps X.K X.mg m.r m.g xs vs → Reps X.K X.mg m.r m.g ys ws → Paired (EqV X.K m.h 2) vs ws
  | [], [], _, _, _, a, b => by cases a; cases b; exact .nil
  | [], y :: q, _, _, h, _, _ => h.elim
  | x :: r, [], _, _, h, _, _ => h.elim
  | x :: r, y :: q, _, _, h, a, b => by
    cases a with
    | cons a1 a2 =>
      cases b with
      | cons b1 b2 =>
        refine .cons ?_ (its_eq rm h.2 a2 b2)
        rcases h.1 with ⟨e, f⟩ | ⟨n, k, l, e1, e2, h1, h2, nd, fl⟩
        · subst e
          exact .inl (flat_rep2 f a1 b1)
        · subst e1; subst e2
          cases a1 with
          | loc p1 =>
            cases b1 with
            | loc p2 =>
              obtain ⟨ks, g1, g2, g3⟩ := (show ∃ kvs, m.h _ = some (.dK kvs) ∧ kvs.map (·.1) = l.map (·.1) ∧ Reps X.K X.mg m.r m.g (l.map (·.2)) (kvs.map (·.2)) from rm.obj n _ _ p1 h1)
              obtain ⟨ls, g4, g5, g6⟩ := (show ∃ kvs, m.h _ = some (.dK kvs) ∧ kvs.map (·.1) = l.map (·.1) ∧ Reps X.K X.mg m.r m.g (l.map (·.2)) (kvs.map (·.2)) from rm.obj k _ _ p2 h2)
              refine .inr (.inr (.inr ⟨_, _, ks, ls, rfl, rfl, g1, g4, ?_, dict_eqs nd fl g2 g3 g5 g6⟩))
              rw [← List.length_map (f := fun p : Key × V => p.1), g2, ← g5, List.length_map]
theorem fits_eqT : Fits2 X W (rEqT X.K) dEqT := by
  intro m st σ x y v w Q rm ra rb hp
  unfold dEqT at hp
  split at hp
  · rename_i xs ys
    by_cases c : eqIts st xs ys
    · rw [if_pos c] at hp
      cases ra with
      | tup a1 a2 =>
        cases rb with
        | tup b1 b2 =>
          exact ⟨_, _, _, _, 2, rfl, rfl, sqT_mono rm.sub a1, sqT_mono rm.sub b1, by omega, its_eq rm c a2 b2, hp.okc (v := .bl true) rm (.bl _)⟩
    · rw [if_neg c] at hp
      exact False.elim hp
  · exact False.elim hp
end
end Sh
/-! Part ZZ: a tuple's [::-1] -/
namespace L2
open PySem PySem.Spec PyProof.Rows HT
section
variable {prog : Program} {w : World} {A : Around} {E : Value → Shared → Prop} {s : Shared}
theorem sliceApplied_back {sl : Addr} {vl vu vs : Value} {n : Nat} {Q : Int × Int × Nat → Shared → Prop} (hs : s.heap.IsSliceOf sl vl vu vs) (pl : IsPart vl none) (pu : IsPart vu none) (ps : IsPart vs (some (-1)))
    (h : Q ((n : Int) - 1, -1, n) s) : wpAny (model prog w) A (Builtin.Slice.sliceApplied (.ref sl) (pure (n : Int))) Q E s := by
  obtain ⟨os, hos, hcs, hds⟩ := id hs
  unfold Builtin.Slice.sliceApplied Builtin.Slice.sliceFields
  refine wpAny_bind (wpAny_bind (wpAny_field hos hds (x := vl) rfl (wpAny_bind (wpAny_field hos hds (x := vu) rfl (wpAny_bind (wpAny_field hos hds (x := vs) rfl (wpAny_pure ?_)))))))
  refine wpAny_bind (slicePart_ ps ?_)
  show wpAny _ _ (if ((-1 : Int) == 0) = true then _ else _) _ _ s
  rw [if_neg (by decide)]
  refine wpAny_bind (slicePart_ pl (wpAny_bind (slicePart_ pu (wpAny_bind (wpAny_pure ?_)))))
  show wpAny _ _ (match Builtin.Slice.sliceAdjust none none (-1) (n : Int) with | (lo, hi) => pure (lo, (-1 : Int), Builtin.Slice.slicePlaces lo hi (-1))) _ _ s
  have e : Builtin.Slice.sliceAdjust none none (-1) (n : Int) = ((n : Int) - 1, -1) := rfl
  rw [e]
  show wpAny _ _ (pure ((n : Int) - 1, (-1 : Int), Builtin.Slice.slicePlaces ((n : Int) - 1) (-1) (-1))) _ _ s
  have e2 : Builtin.Slice.slicePlaces ((n : Int) - 1) (-1) (-1) = n := by
    unfold Builtin.Slice.slicePlaces
    rw [if_neg (by decide)]
    by_cases c : (n : Int) - 1 > -1
    · rw [if_pos c, show (- -1 : Int) = 1 by decide, Int.ediv_one]
      omega
    · rw [if_neg c]
      omega
  rw [e2]
  exact wpAny_pure h
theorem pick_back (xs : Array Value) : ((List.range xs.size).filterMap fun (m : Nat) => xs[(((xs.size : Int) - 1) + (m : Int) * -1).toNat]?).toArray = xs.toList.reverse.toArray := by
  have e : (List.range xs.size).filterMap (fun (m : Nat) => xs[(((xs.size : Int) - 1) + (m : Int) * -1).toNat]?) = ((List.range xs.size).map fun k => xs.size - 1 - k).filterMap (xs[·]?) := by
    rw [List.filterMap_map]
    congr 1
    funext k
    have : (((xs.size : Int) - 1) + (k : Int) * -1).toNat = xs.size - 1 - k := by omega
    show xs[(((xs.size : Int) - 1) + (k : Int) * -1).toNat]? = xs[xs.size - 1 - k]?
    rw [this]
  rw [e, PySem.W.krv_range, List.filterMap_reverse, PySem.W.krv_all]
theorem getItem_tuple_back {t sl : Addr} {items : Array Value} {vl vu vs : Value} {Q : Value → Shared → Prop} (ht : IsTup s.heap t items) (hs : s.heap.IsSliceOf sl vl vu vs) (pl : IsPart vl none) (pu : IsPart vu none) (ps : IsPart vs (some (-1)))
    (h : Q (.ref s.heap.objs.size) { s with heap := s.heap.push { cls := .type "tuple", data := .seq items.toList.reverse.toArray } })
    (hsz : items.size ≤ sizeLine) : wpAny (model prog w) A (getItem (.ref t) (.ref sl)) Q E s := by
  have htake : sizeOk (.seq items.toList.reverse.toArray) := by
    show items.toList.reverse.toArray.size ≤ sizeLine
    rw [List.size_toArray, List.length_reverse, Array.length_toList]
    exact hsz
  obtain ⟨os, hos, hcs, hds⟩ := id hs
  have hTs : s.TypeIs (.ref sl) "slice" := ⟨os, hos, hcs⟩
  unfold getItem
  try with_reducible refine wpAny_holding ?_
  first | refine wpAny_bind (wpAny_pure ?_) | skip
  refine wpAny_bind (wpAny_sequenceKey ht.typeIs (by decide) ?_)
  refine wpAny_bind (wpAny_callSpecial?_slot (name := Str.ofString "__getitem__") ht.typeIs PyProof.Rows.slot_tuple_getitem
    (wpAny_call_entry PyProof.Rows.slot_tuple_getitem ht.typeIs entry_tuple_getitem ?_ (args_tuple_getitem _ _)))
  show wpAny _ _ (Builtin.Tuple.tupleItemsOf (.ref t) >>= _) _ _ s
  refine wpAny_bind (tupleItemsOf_ ht ?_)
  refine wpAny_bind (wpAny_typeOf hTs ?_)
  rw [if_pos (by decide)]
  refine wpAny_bind (sliceApplied_back hs pl pu ps ?_)
  have hno : ¬ ((((items.size : Int) - 1) == 0 && (-1 : Int) == 1 && items.size == items.size) = true) := by
    rw [show ((-1 : Int) == 1) = false from rfl]
    simp
  show wpAny _ _ (if (((items.size : Int) - 1) == 0 && (-1 : Int) == 1 && items.size == items.size) = true then _ else _) _ _ s
  rw [if_neg hno, pick_back]
  first
    | exact wpAny_bind (m := Builtin.Tuple.tupleExact _) (wpAny_newObj_type (wpAny_pure ⟨_, rfl, wpAny_pure h⟩) htake)
    | exact wpAny_bind (m := Builtin.Tuple.tupleExact _) (wpAny_newObj_type (wpAny_bind (wpAny_pure (wpAny_pure ⟨_, rfl, wpAny_pure h⟩))) htake)
    | exact wpAny_bind (wpAny_bind (m := Builtin.Tuple.tupleExact _) (wpAny_newObj_type (wpAny_pure (wpAny_pure ⟨_, rfl, wpAny_pure h⟩)) htake))
    | exact wpAny_bind (wpAny_bind (m := Builtin.Tuple.tupleExact _) (wpAny_newObj_type (wpAny_pure ⟨_, rfl, wpAny_pure h⟩) htake))
end
/-- t[::-1] of a tuple -/
def tRevT (K : PySem.W.Frag) (te : TE) : TE := fun σ H Q => te σ H fun x H1 => ∃ a xs, x = .ref a ∧ SqT K H1 a xs ∧ ∀ p, H1 p = none → Q (.ref p) (upd H1 p (.tup xs.reverse))
section
variable {X : Cx}
theorem pe_revT {e : Expr} {te : TE} {k : Nat} {p1 p2 p3 pos : Pos} (he : PE X e te) : PE X (.Subscript e (.Slice none none (some (.UnaryOp .USub (.Constant (.int 1) k p1) p2)) p3) pos) (tRevT X.K te) := by
  refine ⟨fun pins s σ H Q I h => ?_⟩
  refine Subscript_ (thn (he.run pins s σ H _ I h) fun v s1 ⟨x, H1, I1, r1, q1⟩ => ?_)
  obtain ⟨a, xs, ex, hx, q⟩ := q1
  subst ex
  cases r1
  have hst : PO X (some (.UnaryOp .USub (.Constant (.int 1) k p1) p2)) (tPart (tUn (rU fun i => .int (-i)) (tC (.int 1)))) := po_some (pe_un un_neg pe_int)
  refine wpAny_Slice (thn (po_none.run pins s1 σ H1 (fun o H2 => o = none ∧ H2 = H1) I1 ⟨rfl, rfl⟩) fun vl s2 ⟨l, H2, I2, pl, el, e2⟩ => ?_)
  subst el e2
  refine thn (po_none.run pins s2 σ H2 (fun o H3 => o = none ∧ H3 = H2) I2 ⟨rfl, rfl⟩) fun vu s3 ⟨u, H3, I3, pu, eu, e3⟩ => ?_
  subst eu e3
  refine thn (hst.run pins s3 σ H3 (fun o H4 => o = some (-1) ∧ H4 = H3) I3 ⟨1, rfl, -1, rfl, rfl, rfl⟩) fun vs s4 ⟨o, H4, I4, ps, eo, e4⟩ => ?_
  subst eo e4
  have I5 : Inv X pins σ H4 { s4 with heap := s4.heap.push { cls := .type "slice", data := .fields #[vl, vu, vs] } } := I4.kept (t' := s4.toks) fun b ob q => Heap.get?_push_of_some _ q
  obtain ⟨its, r, ht, hz⟩ := I5.tuple hx
  have hlen := r.length
  show wpAny (model X.prog X.w) X.A (subscriptTail e (.Slice none none (some (.UnaryOp .USub (.Constant (.int 1) k p1) p2)) p3) (.ref a) (.ref s4.heap.objs.size)) (EP X pins σ Q) X.xe { s4 with heap := s4.heap.push { cls := .type "slice", data := .fields #[vl, vu, vs] } }
  refine tail_any (ops := [.ref a, .ref s4.heap.objs.size]) ht.typeIs (PyProof.Rows.slot_tuple_getitem.lookup) ?_ (by with_unfolding_all rfl)
  refine getItem_tuple_back ht (Heap.IsSliceOf.new _ vl vu vs) pl pu ps ?_ (by rw [List.size_toArray]; omega)
  refine ⟨.ref _, _, I5.laid (t' := s4.toks) (o := .tup xs.reverse) (fun b ob q => Heap.get?_push_of_some _ q) (Nat.le_refl _) ?_, rfl, q _ (I5.hok.fresh (Nat.le_refl _))⟩
  exact ⟨by rw [List.length_reverse]; exact hz, _, r.reverse, IsTup.new _ _⟩
end
end L2
namespace Sh
open PySem L2
@[simp] def fRevT (f : EF) : EF := fun sg st => (f sg st).bind fun x st1 => match x with
  | .tup l => .ok (.tup l.reverse) st1
  | _ => .bad
section
variable {X : Cx} {W : We} {e : Expr} {f : EF} {p2 pos : Pos}
theorem se_revT {k : Nat} {p1 p3 : Pos} (he : SE X W e f) : SE X W (.Subscript e (.Slice none none (some (.UnaryOp .USub (.Constant (.int 1) k p1) p2)) p3) pos) (fRevT f) :=
  pe_weak (pe_revT he) fun σ H Q ⟨m, sg, st, em, rm, rs, hp⟩ => ⟨m, sg, st, em, rm, rs, hp.bindc fun m1 x v st1 e1 r1 q1 hp1 => by
    split at hp1
    · cases q1 with
      | tup k1 k2 => exact ⟨_, _, rfl, sqT_mono r1.sub k1, hp1.lay (α := D) r1 fun p hn => .tup (.of upd_same) (rev_rep (k2.mono (Ext.lay r1 hn)))⟩
    · exact False.elim hp1⟩
end
end Sh
/-! Part ZZA: divmod; own |, &, ^ -/
namespace Sh
open PySem L2
section
variable {X : Cx} {W : We}
@[simp] def bDivmod : List D → Sto → Res D := fun l st => match l with
  | [.int i, .int j] => if 0 < j ∧ divOk j then .ok (.tup [.int (i / j), .int (i % j)]) st else .bad
  | _ => .bad
theorem fits_divmod : FitsL X W (fun xs H Q => ∃ i j, xs = [.int i, .int j] ∧ CDivP i j ∧ ∀ p, H p = none → Q (.ref p) (upd H p (.tup [.int (i / j), .int (i % j)]))) bDivmod := by
  intro m st σ l vs Q rm ra hp
  unfold bDivmod at hp
  split at hp
  · rename_i i j
    split at hp
    · rename_i h
      cases ra with
      | cons h1 h2 =>
        cases h2 with
        | cons h3 h4 =>
          cases h4
          cases h1
          cases h3
          exact ⟨i, j, rfl, ⟨h.1, PyProof.noPylong_of_log2 h.2⟩, hp.lay (α := D) rm fun p hn => .tup (.of upd_same) (.cons (.int _) (.cons (.int _) .nil))⟩
    · exact False.elim hp
  · exact False.elim hp
end
end Sh
/-! Part ZZB: a pair whose second part is a live list, given back to be read from then on -/
namespace Sh
open PySem L2 He
section
variable {K : PySem.W.Frag} {mg : Str → Option Value} {W : WX} {m : Hw} {σ : St}
noncomputable def frzpF (F : FF) : FF := fun ds st => match F ds st with
  | .ok (.tup [x, .loc n]) st2 => if st.length ≤ n ∧ (st2.take st.length).all soPu = true then (match st2[n]? with
    | some (.lst l) => if pus l = true ∧ pus [x] = true then .ok (.tup [x, .lst l]) (st2.take st.length) else .bad
    | _ => .bad) else .bad
  | _ => cutF F ds st
theorem frzp_post {F : FF} {ds : List D} {st : Sto} {Q : VK} (rm : Rel K mg m st) (hp : Post K mg W m σ (RD K mg) Q (frzpF F ds st)) : Post K mg W m σ (RD K mg) Q (F ds st) := by
  unfold frzpF at hp
  split at hp
  · rename_i x n st2 hf
    rw [hf]
    split at hp
    · rename_i h
      obtain ⟨hn, ho⟩ := h
      split at hp
      · rename_i l hl
        split at hp
        · rename_i hpu
          obtain ⟨hpu, hpx⟩ := hpu
          intro m' v e r q
          cases q with
          | @tup _ _ b0 hs q =>
            cases q with
            | cons qx q =>
              cases q with
              | cons q qn =>
                cases qn
                cases q with
                | @loc _ a ha =>
                  obtain ⟨vs, h1, h2⟩ := r.obj _ _ _ ha hl
                  have ga : m'.g a = none := r.off a (List.mem_of_getElem? ha)
                  have na : a ∉ m.r := fun hm => by
                    obtain ⟨i, hi⟩ := List.getElem?_of_mem hm
                    have hj := e.at_ hi
                    have := nodup_ix' r.nd hj ha
                    have hlt : i < m.r.length := (List.getElem?_eq_some_iff.mp hi).1
                    rw [rm.len] at hlt
                    omega
                  have up : ∀ b u, m'.g b = some u → upd m'.g a (.lst vs) b = some u := fun b u z => by rw [upd_ne (ne_of_none z ga)]; exact z
                  have r2 := rel_cut2 rm r e ho
                  have hna : ∀ u, m.h a = some u → a ∉ m.r → False := fun u z n' => (e.fr a u z n').2.1 (List.mem_of_getElem? ha)
                  have qx' : Reps K mg m.r (upd m'.g a (.lst vs)) [x] [_] := reps_pu _ _ hpx (Reps.mono' (fun _ _ z => z) up _ _ (.cons qx .nil))
                  have fin : Rep K mg m.r (upd m'.g a (.lst vs)) (.tup [x, .lst l]) (.ref b0) := by
                    cases qx' with
                    | cons qx' _ => exact .tup (sqT_mono up hs) (.cons qx' (.cons (.lst upd_same (reps_pu _ _ hpu (Reps.mono' (fun _ _ z => z) up _ _ h2))) .nil))
                  refine hp ⟨m.r, upd m'.g a (.lst vs), m'.h⟩ (.ref b0) ⟨⟨[], by simp⟩, fun b u z => up b u (e.g b u z), fun b u z n' => ?_⟩ ⟨fun b u z => ?_, r2.len, r2.nd, fun b z => ?_, fun i b so z1 z2 => ?_⟩ fin
                  · obtain ⟨j1, _, j3⟩ := e.fr b u z n'
                    refine ⟨j1, n', fun z0 => ?_⟩
                    have hb : b ≠ a := fun q => by subst q; exact hna u z n'
                    show upd m'.g a (.lst vs) b = none
                    rw [upd_ne hb]; exact j3 z0
                  · have z : upd m'.g a (.lst vs) b = some u := z
                    by_cases hb : b = a
                    · subst hb; rw [upd_same] at z; cases z; exact h1
                    · rw [upd_ne hb] at z; exact r.sub b u z
                  · have hb : b ≠ a := fun q => na (q ▸ z)
                    show upd m'.g a (.lst vs) b = none
                    rw [upd_ne hb]; exact r2.off b z
                  · exact (r2.obj i b so z1 z2).mono' (fun _ _ z => z) up fun _ z => z
        · exact False.elim hp
      · exact False.elim hp
    · exact False.elim hp
  · exact cut_post rm hp
theorem spF_frzp {n : Nat} {F : FF} {vs : List V} {H : Hp} {Q : VK} {E : XK} (h : spF K mg n (frzpF F) vs H Q E) : spF K mg n F vs H Q E := by
  obtain ⟨m, ds, st, h1, h2, h3, h4, h5⟩ := h
  exact ⟨m, ds, st, h1, h2, h3, h4, frzp_post h2 h5⟩
theorem DefOk.frzp {P : Program} {w : World} {base : Heap} {k : Nat} {f : Addr} {ps : List Str} {dvs : List V} {F : FF} (h : DefOk P w K mg base k f ps dvs F) : DefOk P w K mg base k f ps dvs (frzpF F) := by
  obtain ⟨⟨fd, h1, h2, h3⟩, h4⟩ := h
  exact ⟨⟨fd, h1.imp fun vs H Q E z => spF_frzp z, h2, h3⟩, h4⟩
end
end Sh
/-! Part ZZC: == and != of a built-in value and an own object, turned about -/
namespace PySem.SeqAt
open AutoSeq1 (wpAny_loadPart')
open MeetsSeq
theorem int_eq_no_int (b : Int) (u : Tok) (l : Addr) (c : Value) (dd : Option Addr) (sl : Array (Option Value)) :
    Meets (Builtin.«int.__eq__» ⟨[.int b u, .ref l], []⟩) (fun _ R s => s.heap.get? l = some { cls := c, dict := dd, data := .plain, slots := sl } ∧ R (.ok (.ret .notImplemented)) s) :=
  .of_wp fun prog w A R s h => by obtain ⟨hp, g, d, tk, os⟩ := s; obtain ⟨hl, h⟩ := h; wp_walk using wpAny_loadPart' hl, wpAny_load hl; exact ⟨_, rfl, h⟩
theorem int_eq_no_bool (b : Bool) (l : Addr) (c : Value) (dd : Option Addr) (sl : Array (Option Value)) :
    Meets (Builtin.«int.__eq__» ⟨[.bool b, .ref l], []⟩) (fun _ R s => s.heap.get? l = some { cls := c, dict := dd, data := .plain, slots := sl } ∧ R (.ok (.ret .notImplemented)) s) :=
  .of_wp fun prog w A R s h => by obtain ⟨hp, g, d, tk, os⟩ := s; obtain ⟨hl, h⟩ := h; wp_walk using wpAny_loadPart' hl, wpAny_load hl; exact ⟨_, rfl, h⟩
theorem str_eq_no (b : Str) (u : Tok) (l : Addr) (c : Value) (dd : Option Addr) (sl : Array (Option Value)) :
    Meets (Builtin.«str.__eq__» ⟨[.str b u, .ref l], []⟩) (fun _ R s => s.heap.get? l = some { cls := c, dict := dd, data := .plain, slots := sl } ∧ R (.ok (.ret .notImplemented)) s) :=
  .of_wp fun prog w A R s h => by obtain ⟨hp, g, d, tk, os⟩ := s; obtain ⟨hl, h⟩ := h; wp_walk using wpAny_loadPart' hl, wpAny_load hl; exact ⟨_, rfl, h⟩
theorem int_ne_no_int (b : Int) (u : Tok) (l : Addr) (c : Value) (dd : Option Addr) (sl : Array (Option Value)) :
    Meets (Builtin.«int.__ne__» ⟨[.int b u, .ref l], []⟩) (fun _ R s => s.heap.get? l = some { cls := c, dict := dd, data := .plain, slots := sl } ∧ R (.ok (.ret .notImplemented)) s) :=
  .of_wp fun prog w A R s h => by obtain ⟨hp, g, d, tk, os⟩ := s; obtain ⟨hl, h⟩ := h; wp_walk using wpAny_loadPart' hl, wpAny_load hl; exact ⟨_, rfl, h⟩
theorem int_ne_no_bool (b : Bool) (l : Addr) (c : Value) (dd : Option Addr) (sl : Array (Option Value)) :
    Meets (Builtin.«int.__ne__» ⟨[.bool b, .ref l], []⟩) (fun _ R s => s.heap.get? l = some { cls := c, dict := dd, data := .plain, slots := sl } ∧ R (.ok (.ret .notImplemented)) s) :=
  .of_wp fun prog w A R s h => by obtain ⟨hp, g, d, tk, os⟩ := s; obtain ⟨hl, h⟩ := h; wp_walk using wpAny_loadPart' hl, wpAny_load hl; exact ⟨_, rfl, h⟩
theorem str_ne_no (b : Str) (u : Tok) (l : Addr) (c : Value) (dd : Option Addr) (sl : Array (Option Value)) :
    Meets (Builtin.«str.__ne__» ⟨[.str b u, .ref l], []⟩) (fun _ R s => s.heap.get? l = some { cls := c, dict := dd, data := .plain, slots := sl } ∧ R (.ok (.ret .notImplemented)) s) :=
  .of_wp fun prog w A R s h => by obtain ⟨hp, g, d, tk, os⟩ := s; obtain ⟨hl, h⟩ := h; wp_walk using wpAny_loadPart' hl, wpAny_load hl; exact ⟨_, rfl, h⟩
theorem none_ne_no (l : Addr) : Gives (Builtin.«NoneType.__ne__» ⟨[.none, .ref l], []⟩) (.val (Value.notImplemented)) :=
  .of_wp fun M A E s Q h => by obtain ⟨hp, g, d, tk, os⟩ := s; wp_walk; exact ⟨_, rfl, h⟩
section
open PySem PySem.W PyProof.Rows
variable {prog : Program} {w : World} {A : Around} {E : Value → Shared → Prop} {s : Shared} {K : Frag} {x C L f : Addr} {h₀ : Heap} {m : Str → Option Value} {ox : Obj} {od : Option Obj}
theorem isinst_no {M : Model} {T : String} {Q : Bool → Shared → Prop} (X : K.In s.heap) (I : InstAt s.heap x ox C od) (hs : subIn K (.ref C) (.type T) = some false) (h : Q false s) : wpAny M A (isInstance (.ref x) (.type T)) Q E s := by
  unfold isInstance
  exact wpAny_bind (I.type.here ((looks_subIn X hs).here h))
theorem tup_eq_no {l : Addr} {R : Fin → Shared → Prop} (X : K.In s.heap) (I : InstAt s.heap x ox C od) (hs : subIn K (.ref C) (.type "tuple") = some false) (h : R (.done (.ret .notImplemented)) s) :
    wpAny (model prog w) A (Builtin.«tuple.__eq__» ⟨[.ref l, .ref x], []⟩) R E s := by
  have hi : ∀ {Q : Bool → Shared → Prop}, Q false s → wpAny (model prog w) A (isInstance (.ref x) (.type "tuple")) Q E s := fun h => isinst_no X I hs h
  obtain ⟨hp, g, d, tk, os⟩ := s
  wp_walk using hi
  all_goals exact h
theorem lst_eq_no {l : Addr} {R : Fin → Shared → Prop} (X : K.In s.heap) (I : InstAt s.heap x ox C od) (hs : subIn K (.ref C) (.type "list") = some false) (h : R (.done (.ret .notImplemented)) s) :
    wpAny (model prog w) A (Builtin.«list.__eq__» ⟨[.ref l, .ref x], []⟩) R E s := by
  have hi : ∀ {Q : Bool → Shared → Prop}, Q false s → wpAny (model prog w) A (isInstance (.ref x) (.type "list")) Q E s := fun h => isinst_no X I hs h
  obtain ⟨hp, g, d, tk, os⟩ := s
  wp_walk using hi
  all_goals exact h
theorem tup_ne_no {l : Addr} {R : Fin → Shared → Prop} (X : K.In s.heap) (I : InstAt s.heap x ox C od) (hs : subIn K (.ref C) (.type "tuple") = some false) (h : R (.done (.ret .notImplemented)) s) :
    wpAny (model prog w) A (Builtin.«tuple.__ne__» ⟨[.ref l, .ref x], []⟩) R E s := by
  have hi : ∀ {Q : Bool → Shared → Prop}, Q false s → wpAny (model prog w) A (isInstance (.ref x) (.type "tuple")) Q E s := fun h => isinst_no X I hs h
  obtain ⟨hp, g, d, tk, os⟩ := s
  wp_walk using hi
  all_goals exact h
theorem lst_ne_no {l : Addr} {R : Fin → Shared → Prop} (X : K.In s.heap) (I : InstAt s.heap x ox C od) (hs : subIn K (.ref C) (.type "list") = some false) (h : R (.done (.ret .notImplemented)) s) :
    wpAny (model prog w) A (Builtin.«list.__ne__» ⟨[.ref l, .ref x], []⟩) R E s := by
  have hi : ∀ {Q : Bool → Shared → Prop}, Q false s → wpAny (model prog w) A (isInstance (.ref x) (.type "list")) Q E s := fun h => isinst_no X I hs h
  obtain ⟨hp, g, d, tk, os⟩ := s
  wp_walk using hi
  all_goals exact h
theorem dic_eq_no {l : Addr} {R : Fin → Shared → Prop} (hl : s.TypeIs (.ref l) "dict") (X : K.In s.heap) (I : InstAt s.heap x ox C od) (hs : subIn K (.ref C) (.type "dict") = some false) (h : R (.done (.ret .notImplemented)) s) :
    wpAny (model prog w) A (Builtin.«dict.__eq__» ⟨[.ref l, .ref x], []⟩) R E s := by
  have hi : ∀ {Q : Bool → Shared → Prop}, Q false s → wpAny (model prog w) A (isInstance (.ref x) (.type "dict")) Q E s := fun h => isinst_no X I hs h
  obtain ⟨hp, g, d, tk, os⟩ := s
  wp_walk using hi
  all_goals exact h
theorem dic_ne_no {l : Addr} {R : Fin → Shared → Prop} (hl : s.TypeIs (.ref l) "dict") (X : K.In s.heap) (I : InstAt s.heap x ox C od) (hs : subIn K (.ref C) (.type "dict") = some false) (h : R (.done (.ret .notImplemented)) s) :
    wpAny (model prog w) A (Builtin.«dict.__ne__» ⟨[.ref l, .ref x], []⟩) R E s := by
  have hi : ∀ {Q : Bool → Shared → Prop}, Q false s → wpAny (model prog w) A (isInstance (.ref x) (.type "dict")) Q E s := fun h => isinst_no X I hs h
  obtain ⟨hp, g, d, tk, os⟩ := s
  wp_walk using hi
  all_goals exact h
theorem cmp_KR {u : Value} {T id : String} {op : CmpOp} {Q : Value → Shared → Prop} (hu : A.units < cLine) (F : Fr h₀ L s.heap m) (X₀ : K.In h₀) (I : InstAt s.heap x ox C od) (ha : s.TypeIs u T) (sl : Slot T (cmpInfo op).2.1 id)
    (hd : ∀ Q' : Value → Shared → Prop, Q' .notImplemented s → wpAny (model prog w) A (call (.builtin id) [u, .ref x]) Q' E s) (hsub : subIn K (.ref C) (.type T) = some false)
    (one : wpAny (model prog w) A (tryCompare (.ref x) (cmpInfo op).2.2 u) (fun r s' => ∃ v, r = some v ∧ Q v s') E s) : wpAny (model prog w) A (richCompare op u (.ref x)) Q E s := by
  have X := X₀.keeps F.keep
  rcases hi : cmpInfo op with ⟨sym, fn, r⟩
  rw [hi] at sl one
  simp only [richCompare, hi, ha.oneThing_none]
  refine wpAny_holding (wpAny_bind (wpAny_cRoomFor hu ?_))
  refine wpAny_bind (wpAny_typeOf ha (wpAny_bind (I.type.here ?_)))
  have hne : (Value.type T != Value.ref C) = true := rfl
  simp only [hne, if_true]
  refine wpAny_bind ((looks_subIn X hsub).here ?_)
  simp only [Bool.false_eq_true, if_false, Bool.not_false, if_true]
  refine wpAny_bind (m := tryCompare u _ (.ref x)) (wpAny_tryCompare_declines ha sl (hd _ ⟨rfl, ?_⟩))
  refine wpAny_bind (m := tryCompare (.ref x) _ u) (wpAny_mono one (fun r s' z => ?_) fun _ _ e => e)
  obtain ⟨v, rfl, hq⟩ := z
  exact wpAny_pure hq
theorem eq_one {u : Value} {Q : Value → Shared → Prop} (X : K.In s.heap) (I : InstAt s.heap x ox C od) (hs : findIn K (.ref C) "__eq__" = some (some (.ref f))) (hf : isFn K (.ref f) = true)
    (h : wpAny (model prog w) A (call (.ref f) [.ref x, u]) (PySem.W.CmpBack Q) E s) : wpAny (model prog w) A (tryCompare (.ref x) (cmpInfo .Eq).2.2 u) (fun r s' => ∃ v, r = some v ∧ Q v s') E s := by
  unfold tryCompare
  refine wpAny_bind (ifBound_K X I hs hf (wpAny_mono h (fun v s' hv => ?_) fun _ _ e => e))
  cases v <;> first | exact hv.elim | exact wpAny_pure ⟨_, rfl, hv⟩
theorem ne_one {b : Value} {Q : Value → Shared → Prop} (hu : A.units + 1 < cLine) (X : K.In s.heap) (I : InstAt s.heap x ox C od)
    (hne : findIn K (.ref C) "__ne__" = some (some (.builtin "object.__ne__"))) (hso : subIn K (.ref C) (.type "object") = some true) (hs : findIn K (.ref C) "__eq__" = some (some (.ref f))) (hf : isFn K (.ref f) = true)
    (h : wpAny (model prog w) A.in1 (call (.ref f) [.ref x, b]) (fun v s' => ∃ c, v = .bool c ∧ Q (.bool (!c)) s') E s) : wpAny (model prog w) A (tryCompare (.ref x) (cmpInfo .NotEq).2.2 b) (fun r s' => ∃ v, r = some v ∧ Q v s') E s := by
  have S := PySem.F.cmp_object.ne
  unfold tryCompare
  refine wpAny_bind ?_
  simp only [callSpecialIfBound?, bindSpecialIfBound?]
  refine wpAny_holding (wpAny_bind (wpAny_bind (wpAny_bind (I.type.here ((looks_findIn X hne).here ?_)))))
  simp only [S.bind]
  have fin : ∀ {Q' : Option Value → Shared → Prop}, (∀ v s', (∃ c, v = .bool c ∧ Q (.bool c) s') → Q' (some v) s') → wpAny (model prog w) A (call (.builtin "object.__ne__") ([.ref x] ++ [b]) >>= fun v => pure (some v)) Q' E s := fun {Q'} hq => by
    refine wpAny_bind (wpAny_mono (Q := fun v s' => ∃ c, v = .bool c ∧ Q (.bool c) s') (wpAny_call (codeAny_call_builtin S.plain PySem.F.cmpEntry_ne (Sh.ne_check X I hso (Sh.ne_body (A := A.in1) hu X I hs hf (wpAny_mono h (fun v s' hv => ?_) fun _ _ e => e))))) (fun v s' z => wpAny_pure (hq v s' z)) fun _ _ e => e)
    obtain ⟨c, rfl, hq'⟩ := hv
    exact ⟨c, rfl, ⟨_, rfl, hq'⟩⟩
  have last : ∀ v s', (∃ c, v = Value.bool c ∧ Q (.bool c) s') → wpAny (model prog w) A (match some v with
      | some .notImplemented | none => pure none
      | some v => pure (some v)) (fun r s' => ∃ v, r = some v ∧ Q v s') E s' := fun v s' ⟨c, e, q⟩ => by
    subst e
    exact wpAny_pure ⟨_, rfl, q⟩
  refine wpAny_bind (wpAny_askSetting (wpAny_ite ?_))
  split
  · exact wpAny_bind (wpAny_pure (wpAny_pure (fin last)))
  · exact wpAny_tryCatch (wpAny_bind (wpAny_pure (wpAny_pure (fin last))))
theorem obj_at (I : InstAt s.heap x ox C od) (hd : ox.data = .plain) : ∃ c dd sl, s.heap.get? x = some { cls := c, dict := dd, data := .plain, slots := sl } := by
  obtain ⟨a, b, c, d⟩ := ox
  have h := I.at_
  simp only at hd
  subst hd
  exact ⟨_, _, _, h⟩
theorem de_none {Q : Value → Shared → Prop} (h : Q .notImplemented s) : wpAny (model prog w) A (call (.builtin "NoneType.__eq__") [.none, .ref x]) Q E s :=
  call_gives F.slot_NoneType_eq rfl F.entry_NoneType_eq (F.args_NoneType_eq_2 _ _) (NoneType___eq___none_ref_0 x) h
theorem de_bool {b : Bool} {Q : Value → Shared → Prop} (I : InstAt s.heap x ox C od) (hd : ox.data = .plain) (h : Q .notImplemented s) : wpAny (model prog w) A (call (.builtin "int.__eq__") [.bool b, .ref x]) Q E s := by
  obtain ⟨c, dd, sl, ho⟩ := obj_at I hd
  exact call_meets F.slot_bool_eq rfl F.entry_int_eq (F.args_int_eq_2 _ _) (int_eq_no_bool b x c dd sl) ⟨ho, h⟩
theorem de_int {b : Int} {t : Tok} {Q : Value → Shared → Prop} (I : InstAt s.heap x ox C od) (hd : ox.data = .plain) (h : Q .notImplemented s) : wpAny (model prog w) A (call (.builtin "int.__eq__") [.int b t, .ref x]) Q E s := by
  obtain ⟨c, dd, sl, ho⟩ := obj_at I hd
  exact call_meets F.slot_int_eq (typeIs_int s b t) F.entry_int_eq (F.args_int_eq_2 _ _) (int_eq_no_int b t x c dd sl) ⟨ho, h⟩
theorem de_str {b : Str} {t : Tok} {Q : Value → Shared → Prop} (I : InstAt s.heap x ox C od) (hd : ox.data = .plain) (h : Q .notImplemented s) : wpAny (model prog w) A (call (.builtin "str.__eq__") [.str b t, .ref x]) Q E s := by
  obtain ⟨c, dd, sl, ho⟩ := obj_at I hd
  exact call_meets F.slot_str_eq (typeIs_str s b t) F.entry_str_eq (F.args_str_eq_2 _ _) (str_eq_no b t x c dd sl) ⟨ho, h⟩
theorem dn_none {Q : Value → Shared → Prop} (h : Q .notImplemented s) : wpAny (model prog w) A (call (.builtin "NoneType.__ne__") [.none, .ref x]) Q E s :=
  call_gives F.slot_NoneType_ne rfl F.entry_NoneType_ne (F.args_NoneType_ne_2 _ _) (none_ne_no x) h
theorem dn_bool {b : Bool} {Q : Value → Shared → Prop} (I : InstAt s.heap x ox C od) (hd : ox.data = .plain) (h : Q .notImplemented s) : wpAny (model prog w) A (call (.builtin "int.__ne__") [.bool b, .ref x]) Q E s := by
  obtain ⟨c, dd, sl, ho⟩ := obj_at I hd
  exact call_meets F.slot_bool_ne rfl F.entry_int_ne (F.args_int_ne_2 _ _) (int_ne_no_bool b x c dd sl) ⟨ho, h⟩
theorem dn_int {b : Int} {t : Tok} {Q : Value → Shared → Prop} (I : InstAt s.heap x ox C od) (hd : ox.data = .plain) (h : Q .notImplemented s) : wpAny (model prog w) A (call (.builtin "int.__ne__") [.int b t, .ref x]) Q E s := by
  obtain ⟨c, dd, sl, ho⟩ := obj_at I hd
  exact call_meets F.slot_int_ne (typeIs_int s b t) F.entry_int_ne (F.args_int_ne_2 _ _) (int_ne_no_int b t x c dd sl) ⟨ho, h⟩
theorem dn_str {b : Str} {t : Tok} {Q : Value → Shared → Prop} (I : InstAt s.heap x ox C od) (hd : ox.data = .plain) (h : Q .notImplemented s) : wpAny (model prog w) A (call (.builtin "str.__ne__") [.str b t, .ref x]) Q E s := by
  obtain ⟨c, dd, sl, ho⟩ := obj_at I hd
  exact call_meets F.slot_str_ne (typeIs_str s b t) F.entry_str_ne (F.args_str_ne_2 _ _) (str_ne_no b t x c dd sl) ⟨ho, h⟩
theorem de_tup {l : Addr} {Q : Value → Shared → Prop} (hT : s.TypeIs (.ref l) "tuple") (X : K.In s.heap) (I : InstAt s.heap x ox C od) (hs : subIn K (.ref C) (.type "tuple") = some false) (h : Q .notImplemented s) : wpAny (model prog w) A (call (.builtin "tuple.__eq__") [.ref l, .ref x]) Q E s :=
  wpAny_call_entry F.slot_tuple_eq hT F.entry_tuple_eq (tup_eq_no X I hs ⟨_, rfl, h⟩) (F.args_tuple_eq_2 _ _)
theorem de_lst {l : Addr} {Q : Value → Shared → Prop} (hT : s.TypeIs (.ref l) "list") (X : K.In s.heap) (I : InstAt s.heap x ox C od) (hs : subIn K (.ref C) (.type "list") = some false) (h : Q .notImplemented s) : wpAny (model prog w) A (call (.builtin "list.__eq__") [.ref l, .ref x]) Q E s :=
  wpAny_call_entry F.slot_list_eq hT F.entry_list_eq (lst_eq_no X I hs ⟨_, rfl, h⟩) (F.args_list_eq_2 _ _)
theorem de_dic {l : Addr} {Q : Value → Shared → Prop} (hT : s.TypeIs (.ref l) "dict") (X : K.In s.heap) (I : InstAt s.heap x ox C od) (hs : subIn K (.ref C) (.type "dict") = some false) (h : Q .notImplemented s) : wpAny (model prog w) A (call (.builtin "dict.__eq__") [.ref l, .ref x]) Q E s :=
  wpAny_call_entry F.slot_dict_eq hT F.entry_dict_eq (dic_eq_no hT X I hs ⟨_, rfl, h⟩) (F.args_dict_eq_2 _ _)
theorem dn_tup {l : Addr} {Q : Value → Shared → Prop} (hT : s.TypeIs (.ref l) "tuple") (X : K.In s.heap) (I : InstAt s.heap x ox C od) (hs : subIn K (.ref C) (.type "tuple") = some false) (h : Q .notImplemented s) : wpAny (model prog w) A (call (.builtin "tuple.__ne__") [.ref l, .ref x]) Q E s :=
  wpAny_call_entry F.slot_tuple_ne hT F.entry_tuple_ne (tup_ne_no X I hs ⟨_, rfl, h⟩) (F.args_tuple_ne_2 _ _)
theorem dn_lst {l : Addr} {Q : Value → Shared → Prop} (hT : s.TypeIs (.ref l) "list") (X : K.In s.heap) (I : InstAt s.heap x ox C od) (hs : subIn K (.ref C) (.type "list") = some false) (h : Q .notImplemented s) : wpAny (model prog w) A (call (.builtin "list.__ne__") [.ref l, .ref x]) Q E s :=
  wpAny_call_entry F.slot_list_ne hT F.entry_list_ne (lst_ne_no X I hs ⟨_, rfl, h⟩) (F.args_list_ne_2 _ _)
theorem dn_dic {l : Addr} {Q : Value → Shared → Prop} (hT : s.TypeIs (.ref l) "dict") (X : K.In s.heap) (I : InstAt s.heap x ox C od) (hs : subIn K (.ref C) (.type "dict") = some false) (h : Q .notImplemented s) : wpAny (model prog w) A (call (.builtin "dict.__ne__") [.ref l, .ref x]) Q E s :=
  wpAny_call_entry F.slot_dict_ne hT F.entry_dict_ne (dic_ne_no hT X I hs ⟨_, rfl, h⟩) (F.args_dict_ne_2 _ _)
end
end PySem.SeqAt
namespace Sh
open PySem L2 PySem.SeqAt
section
variable {X : Cx} {W : We} {base : D → D → Sto → Res D} {k c : Nat} {g C : Addr} {F : FF} {ps : List Str}
def eqTy7 : List String := "dict" :: eqTys
/-- values of built-in types, which decline -/
def okL (x : D) (st : Sto) : Bool := match tyD x st with
  | some t => eqTy7.contains t
  | none => false
theorem dict_ty {pins : List (Addr × Obj)} {s : Shared} {σ : St} {H : Hp} {a : Addr} {kvs : List (Key × V)} (I : Inv X pins σ H s) (ea : H a = some (.dK kvs)) : s.TypeIs (.ref a) "dict" := by
  obtain ⟨_, _, vs, _, o, es, ep, h1, h2, _⟩ := (show ObjOk X.prog X.w H s.heap a (.dK kvs) from I.hok a _ ea)
  exact ⟨o, h1, h2.1⟩
theorem left_no {pins : List (Addr × Obj)} {s : Shared} {σ : St} {m : Hw} {st : Sto} {y : D} {v : V} {u : Value} {a : Addr} {ox : Obj} {od : Option Obj} (I : Inv X pins σ m.h s) (J : PySem.W.InstAt s.heap a ox C od) (hd : ox.data = .plain) (tn : ∀ t ∈ eqTy7, PySem.W.subIn X.K (.ref C) (.type t) = some false) (rm : Rel X.K X.mg m st) (q : Rep X.K X.mg m.r m.g y v) (ru : RelV v u) (ok : okL y st = true) :
    ∃ t id id2, t ∈ eqTy7 ∧ s.TypeIs u t ∧ Slot t (cmpInfo .Eq).2.1 id ∧ (∀ (A : Around) (E : Value → Shared → Prop) (Q : Value → Shared → Prop), Q .notImplemented s → wpAny (model X.prog X.w) A (call (.builtin id) [u, .ref a]) Q E s) ∧ Slot t (cmpInfo .NotEq).2.1 id2 ∧ (∀ (A : Around) (E : Value → Shared → Prop) (Q : Value → Shared → Prop), Q .notImplemented s → wpAny (model X.prog X.w) A (call (.builtin id2) [u, .ref a]) Q E s) := by
  obtain ⟨mm, hF⟩ := I.fr
  have XK := I.kIn
  unfold okL at ok
  split at ok
  · rename_i t e
    have hm : t ∈ eqTy7 := List.contains_iff_mem.mp ok
    have ht := tn t hm
    unfold tyD at e
    split at e
    · cases q; cases e; cases (show u = Value.none from ru)
      exact ⟨_, _, _, hm, rfl, F.slot_NoneType_eq, fun A E Q h => de_none h, F.slot_NoneType_ne, fun A E Q h => dn_none h⟩
    · cases q; cases e; cases (show u = Value.bool _ from ru)
      exact ⟨_, _, _, hm, rfl, F.slot_bool_eq, fun A E Q h => de_bool J hd h, F.slot_bool_ne, fun A E Q h => dn_bool J hd h⟩
    · cases q; cases e; obtain ⟨t, rfl⟩ := (show ∃ t, u = Value.int _ t from ru)
      exact ⟨_, _, _, hm, typeIs_int s _ t, F.slot_int_eq, fun A E Q h => de_int J hd h, F.slot_int_ne, fun A E Q h => dn_int J hd h⟩
    · cases q; cases e; obtain ⟨t, rfl⟩ := (show ∃ t, u = Value.str _ t from ru)
      exact ⟨_, _, _, hm, typeIs_str s _ t, F.slot_str_eq, fun A E Q h => de_str J hd h, F.slot_str_ne, fun A E Q h => dn_str J hd h⟩
    · cases e
      cases q with
      | tup h1 h2 =>
        obtain rfl : u = Value.ref _ := ru
        obtain ⟨its, _, it, _⟩ := I.tuple (sqT_mono rm.sub h1)
        exact ⟨_, _, _, hm, it.typeIs, F.slot_tuple_eq, fun A E Q h => de_tup it.typeIs XK J ht h, F.slot_tuple_ne, fun A E Q h => dn_tup it.typeIs XK J ht h⟩
    · cases e
      cases q with
      | lst h1 h2 =>
        obtain rfl : u = Value.ref _ := ru
        obtain ⟨_, its, n, _, _, ho⟩ := I.lstM (rm.sub _ _ h1)
        exact ⟨_, _, _, hm, ⟨_, ho, rfl⟩, F.slot_list_eq, fun A E Q h => de_lst ⟨_, ho, rfl⟩ XK J ht h, F.slot_list_ne, fun A E Q h => dn_lst ⟨_, ho, rfl⟩ XK J ht h⟩
    · cases e
      cases q with
      | edict h1 =>
        obtain rfl : u = Value.ref _ := ru
        have hT := dict_ty I (rm.sub _ _ h1)
        exact ⟨_, _, _, hm, hT, F.slot_dict_eq, fun A E Q h => de_dic hT XK J ht h, F.slot_dict_ne, fun A E Q h => dn_dic hT XK J ht h⟩
    · cases q with
      | loc h1 =>
        split at e
        · rename_i l h2
          cases e
          obtain ⟨vs, h3, _⟩ := rm.obj _ _ _ h1 h2
          obtain rfl : u = Value.ref _ := ru
          obtain ⟨_, its, n, _, _, ho⟩ := I.lstM h3
          exact ⟨_, _, _, hm, ⟨_, ho, rfl⟩, F.slot_list_eq, fun A E Q h => de_lst ⟨_, ho, rfl⟩ XK J ht h, F.slot_list_ne, fun A E Q h => dn_lst ⟨_, ho, rfl⟩ XK J ht h⟩
        · rename_i l h2
          cases e
          obtain ⟨kvs, h3, _⟩ := rm.obj _ _ _ h1 h2
          obtain rfl : u = Value.ref _ := ru
          have hT := dict_ty I h3
          exact ⟨_, _, _, hm, hT, F.slot_dict_eq, fun A E Q h => de_dic hT XK J ht h, F.slot_dict_ne, fun A E Q h => dn_dic hT XK J ht h⟩
        · cases e
    · cases e
  · cases ok
def dOwnER (c : Nat) (F : FF) (n : Nat) (base : D → D → Sto → Res D) : D → D → Sto → Res D := fun x y st => match insOf c y st with
  | some _ => if okL x st = true then cF F n [] [y, x] st else base x y st
  | none => base x y st
theorem BinS.ownER (h : DefOk X.prog X.w X.K X.mg X.base k g ps [] F) (hr : Room k X.A) (tk : Takes X W.w) (hc : X.mg (cName c) = some (.ref C)) (hme : Meth X.K C "__eq__" g) (tn : ∀ t ∈ eqTy7, PySem.W.subIn X.K (.ref C) (.type t) = some false) (hb : BinS X W (compareOp .Eq) base) :
    BinS X W (compareOp .Eq) (dOwnER c F ps.length base) := by
  intro pins s σ m st x y xv yv v u Q I rx ry rm qx qy hp
  unfold dOwnER at hp
  split at hp
  · rename_i l1 e1
    split at hp
    · rename_i ho
      obtain ⟨a, ox, od, rfl, J, hd⟩ := inst_of I hc rm qy e1
      obtain rfl : u = Value.ref a := ry
      obtain ⟨t, id, id2, hm, hT, sl, de, _, _⟩ := left_no I J hd tn rm qx rx ho
      obtain ⟨mm, hF⟩ := I.fr
      obtain ⟨⟨fd, h1, h2, _⟩, h3⟩ := h
      obtain ⟨ds, dv, bb⟩ := h2 0 (Nat.zero_le _)
      show wpAny _ _ (richCompare .Eq v (.ref a)) _ _ _
      refine cmp_KR (op := .Eq) hr.units0 hF I.ok.mod.kin J hT sl (fun Q' h => de _ _ Q' h) (tn t hm) (eq_one I.kIn J hme.at_ hme.fn (wpAny_mono (run_meth (us := [v]) (vs := [xv]) h1 hr tk bb ⟨dv, fun _ _ => .nil⟩ qy I (.cons rx .nil) (Ext.refl m) rm (.one qx) hp) (fun w' s' z => ?_) fun _ _ z => z))
      obtain ⟨z', H', I', rz, qz⟩ := z
      exact SlX.cmpback rz ⟨z', H', I', rz, qz⟩
    · exact hb pins s σ m st x y xv yv v u Q I rx ry rm qx qy hp
  · exact hb pins s σ m st x y xv yv v u Q I rx ry rm qx qy hp
def dOwnNeR (c : Nat) (F : FF) (n : Nat) (base : D → D → Sto → Res D) : D → D → Sto → Res D := fun x y st => match insOf c y st with
  | some _ => if okL x st = true then (cF F n [] [y, x] st).bind dNotB else base x y st
  | none => base x y st
theorem BinS.ownNeR (h : DefOk X.prog X.w X.K X.mg X.base k g ps [] F) (hr : Room (k + 1) X.A) (tk : Takes X W.w) (hc : X.mg (cName c) = some (.ref C)) (hme : Meth X.K C "__eq__" g) (hn : NeC X.K C) (tn : ∀ t ∈ eqTy7, PySem.W.subIn X.K (.ref C) (.type t) = some false) (hb : BinS X W (compareOp .NotEq) base) :
    BinS X W (compareOp .NotEq) (dOwnNeR c F ps.length base) := by
  intro pins s σ m st x y xv yv v u Q I rx ry rm qx qy hp
  unfold dOwnNeR at hp
  split at hp
  · rename_i l1 e1
    split at hp
    · rename_i ho
      obtain ⟨a, ox, od, rfl, J, hd⟩ := inst_of I hc rm qy e1
      obtain rfl : u = Value.ref a := ry
      obtain ⟨t, id, id2, hm, hT, _, _, sl, de⟩ := left_no I J hd tn rm qx rx ho
      obtain ⟨mm, hF⟩ := I.fr
      show wpAny _ _ (richCompare .NotEq v (.ref a)) _ _ _
      have hu : X.A.units + 1 < cLine := by
        have := hr.in1.units0
        exact this
      refine cmp_KR (op := .NotEq) (Nat.lt_of_succ_lt hu) hF I.ok.mod.kin J hT sl (fun Q' h => de _ _ Q' h) (tn t hm) (ne_one hu I.kIn J hn.ne hn.so hme.at_ hme.fn (wpAny_mono (run_meth1 (us := [v]) (vs := [xv]) (Q := fun w H3 => ∃ b, w = .bl b ∧ Q (.bl !b) H3) h hr.in1 tk qy I (.cons rx .nil) rm (.one qx) (hp.bindc fun m1 d w st1 e1 r1 q1 hp1 => ?_)) (fun w' s' z => ?_) fun _ _ z => z))
      · unfold dNotB at hp1
        split at hp1
        · cases q1
          exact ⟨_, rfl, hp1.okc r1 (.bl _)⟩
        · exact False.elim hp1
      · obtain ⟨z', H', I', rz, b, rfl, qz⟩ := z
        cases (show w' = Value.bool b from rz)
        exact ⟨b, rfl, .bl !b, H', I', rfl, qz⟩
    · exact hb pins s σ m st x y xv yv v u Q I rx ry rm qx qy hp
  · exact hb pins s σ m st x y xv yv v u Q I rx ry rm qx qy hp
open He in
def bTn (x : Str) (K : PySem.W.Frag) : Bool := eqTy7.all fun t => decide (PySem.W.subIn K (.ref (ga K x)) (.type t) = some false)
open He in
theorem tn_ok {K : PySem.W.Frag} {x : Str} (h : bTn x K = true) : ∀ t ∈ eqTy7, PySem.W.subIn K (.ref (ga K x)) (.type t) = some false := fun t ht => of_decide_eq_true (List.all_eq_true.mp h t ht)
/-- an own object and a dict -/
def okD (y : D) (st : Sto) : Bool := match tyD y st with
  | some t => t == "dict"
  | none => false
theorem looks_dict {pins : List (Addr × Obj)} {s : Shared} {σ : St} {m : Hw} {st : Sto} {y : D} {v : V} {u : Value} (I : Inv X pins σ m.h s) (nt : PySem.W.subIn X.K (.type "dict") (.ref C) = some false) (rm : Rel X.K X.mg m st) (q : Rep X.K X.mg m.r m.g y v) (ru : RelV v u)
    (e : okD y st = true) : ∃ tb, PySem.W.Looks (model X.prog X.w) s.heap (typeOf u) tb ∧ PySem.W.notFirst X.K C tb = true := by
  have key : ∃ a, u = .ref a ∧ s.TypeIs (.ref a) "dict" := by
    unfold okD at e
    split at e
    · rename_i t ht
      unfold tyD at ht
      split at ht
      · cases ht; cases e
      · cases ht; cases e
      · cases ht; cases e
      · cases ht; cases e
      · cases ht; cases e
      · cases ht; cases e
      · cases q with
        | edict h1 =>
          obtain rfl : u = Value.ref _ := ru
          exact ⟨_, rfl, dict_ty I (rm.sub _ _ h1)⟩
      · cases q with
        | loc h1 =>
          split at ht
          · cases ht; cases e
          · rename_i l h2
            obtain ⟨kvs, h3, _⟩ := rm.obj _ _ _ h1 h2
            obtain rfl : u = Value.ref _ := ru
            exact ⟨_, rfl, dict_ty I h3⟩
          · cases ht
      · cases ht
    · cases e
  obtain ⟨a, rfl, o, ho, hc⟩ := key
  refine ⟨.type "dict", looks_ty ho hc, ?_⟩
  · unfold PySem.W.notFirst
    rw [nt]
    simp
def dOwnED (c : Nat) (F : FF) (n : Nat) (base : D → D → Sto → Res D) : D → D → Sto → Res D := fun x y st => match insOf c x st with
  | some _ => if okD y st = true then cF F n [] [x, y] st else base x y st
  | none => base x y st
theorem BinS.ownED (h : DefOk X.prog X.w X.K X.mg X.base k g ps [] F) (hr : Room k X.A) (tk : Takes X W.w) (hc : X.mg (cName c) = some (.ref C)) (hme : Meth X.K C "__eq__" g) (nt : PySem.W.subIn X.K (.type "dict") (.ref C) = some false) (hb : BinS X W (compareOp .Eq) base) :
    BinS X W (compareOp .Eq) (dOwnED c F ps.length base) := by
  intro pins s σ m st x y xv yv v u Q I rx ry rm qx qy hp
  unfold dOwnED at hp
  split at hp
  · rename_i l1 e1
    split at hp
    · rename_i ho
      obtain ⟨a, ox, od, rfl, J, _⟩ := inst_of I hc rm qx e1
      obtain rfl : v = Value.ref a := rx
      obtain ⟨tb, L, hn⟩ := looks_dict I nt rm qy ry ho
      obtain ⟨mm, hF⟩ := I.fr
      obtain ⟨⟨fd, h1, h2, _⟩, h3⟩ := h
      obtain ⟨ds, dv, bb⟩ := h2 0 (Nat.zero_le _)
      show wpAny _ _ (richCompare .Eq (.ref a) u) _ _ _
      refine PySem.W.cmp_K (op := .Eq) (tb := tb) hr.units0 hF I.ok.mod.kin J L hn hme.at_ hme.fn (wpAny_mono (run_meth (us := [u]) (vs := [yv]) h1 hr tk bb ⟨dv, fun _ _ => .nil⟩ qx I (.cons ry .nil) (Ext.refl m) rm (.one qy) hp) (fun w' s' z => ?_) fun _ _ z => z)
      obtain ⟨z', H', I', rz, qz⟩ := z
      exact SlX.cmpback rz ⟨z', H', I', rz, qz⟩
    · exact hb pins s σ m st x y xv yv v u Q I rx ry rm qx qy hp
  · exact hb pins s σ m st x y xv yv v u Q I rx ry rm qx qy hp
def dOwnNeD (c : Nat) (F : FF) (n : Nat) (base : D → D → Sto → Res D) : D → D → Sto → Res D := fun x y st => match insOf c x st with
  | some _ => if okD y st = true then (cF F n [] [x, y] st).bind dNotB else base x y st
  | none => base x y st
theorem BinS.ownNeD (h : DefOk X.prog X.w X.K X.mg X.base k g ps [] F) (hr : Room (k + 1) X.A) (tk : Takes X W.w) (hc : X.mg (cName c) = some (.ref C)) (hme : Meth X.K C "__eq__" g) (hn : NeC X.K C) (nt : PySem.W.subIn X.K (.type "dict") (.ref C) = some false) (hb : BinS X W (compareOp .NotEq) base) :
    BinS X W (compareOp .NotEq) (dOwnNeD c F ps.length base) := by
  intro pins s σ m st x y xv yv v u Q I rx ry rm qx qy hp
  unfold dOwnNeD at hp
  split at hp
  · rename_i l1 e1
    split at hp
    · rename_i ho
      obtain ⟨a, ox, od, rfl, J, _⟩ := inst_of I hc rm qx e1
      obtain rfl : v = Value.ref a := rx
      obtain ⟨tb, L, hnf⟩ := looks_dict I nt rm qy ry ho
      obtain ⟨mm, hF⟩ := I.fr
      show wpAny _ _ (richCompare .NotEq (.ref a) u) _ _ _
      have hu : X.A.units + 1 < cLine := by
        have := hr.in1.units0
        exact this
      refine ne_viaEq hu hF I.ok.mod.kin J L hnf hn.ne hn.so hme.at_ hme.fn (wpAny_mono (run_meth1 (us := [u]) (vs := [yv]) (Q := fun w H3 => ∃ b, w = .bl b ∧ Q (.bl !b) H3) h hr.in1 tk qx I (.cons ry .nil) rm (.one qy) (hp.bindc fun m1 d w st1 e1 r1 q1 hp1 => ?_)) (fun w' s' z => ?_) fun _ _ z => z)
      · unfold dNotB at hp1
        split at hp1
        · cases q1
          exact ⟨_, rfl, hp1.okc r1 (.bl _)⟩
        · exact False.elim hp1
      · obtain ⟨z', H', I', rz, b, rfl, qz⟩ := z
        cases (show w' = Value.bool b from rz)
        exact ⟨b, rfl, .bl !b, H', I', rfl, qz⟩
    · exact hb pins s σ m st x y xv yv v u Q I rx ry rm qx qy hp
  · exact hb pins s σ m st x y xv yv v u Q I rx ry rm qx qy hp
open He in
def bNtD (x : Str) (K : PySem.W.Frag) : Bool := decide (PySem.W.subIn K (.type "dict") (.ref (ga K x)) = some false)
open He in
theorem ntD_ok {K : PySem.W.Frag} {x : Str} (h : bNtD x K = true) : PySem.W.subIn K (.type "dict") (.ref (ga K x)) = some false := of_decide_eq_true h
end
end Sh
/-! Part ZZD: a tuple's [::2] -/
namespace L2
open PySem PySem.Spec PyProof.Rows HT
section
variable {prog : Program} {w : World} {A : Around} {E : Value → Shared → Prop} {s : Shared}
theorem sliceApplied_two {sl : Addr} {vl vu vs : Value} {n : Nat} {Q : Int × Int × Nat → Shared → Prop} (hs : s.heap.IsSliceOf sl vl vu vs) (pl : IsPart vl none) (pu : IsPart vu none) (ps : IsPart vs (some 2))
    (h : Q (0, 2, (n + 1) / 2) s) : wpAny (model prog w) A (Builtin.Slice.sliceApplied (.ref sl) (pure (n : Int))) Q E s := by
  obtain ⟨os, hos, hcs, hds⟩ := id hs
  unfold Builtin.Slice.sliceApplied Builtin.Slice.sliceFields
  refine wpAny_bind (wpAny_bind (wpAny_field hos hds (x := vl) rfl (wpAny_bind (wpAny_field hos hds (x := vu) rfl (wpAny_bind (wpAny_field hos hds (x := vs) rfl (wpAny_pure ?_)))))))
  refine wpAny_bind (slicePart_ ps ?_)
  show wpAny _ _ (if ((2 : Int) == 0) = true then _ else _) _ _ s
  rw [if_neg (by decide)]
  refine wpAny_bind (slicePart_ pl (wpAny_bind (slicePart_ pu (wpAny_bind (wpAny_pure ?_)))))
  show wpAny _ _ (match Builtin.Slice.sliceAdjust none none 2 (n : Int) with | (lo, hi) => pure (lo, (2 : Int), Builtin.Slice.slicePlaces lo hi 2)) _ _ s
  have e : Builtin.Slice.sliceAdjust none none 2 (n : Int) = (0, (n : Int)) := rfl
  rw [e]
  show wpAny _ _ (pure ((0 : Int), (2 : Int), Builtin.Slice.slicePlaces 0 (n : Int) 2)) _ _ s
  have e2 : Builtin.Slice.slicePlaces 0 (n : Int) 2 = (n + 1) / 2 := by
    unfold Builtin.Slice.slicePlaces
    rw [if_pos (by decide)]
    by_cases c : (0 : Int) < (n : Int)
    · rw [if_pos c]
      omega
    · rw [if_neg c]
      omega
  rw [e2]
  exact wpAny_pure h
def evens {α : Type _} : List α → List α
  | [] => []
  | [x] => [x]
  | x :: _ :: l => x :: evens l
theorem evens_len {α : Type _} : ∀ l : List α, (evens l).length ≤ l.length
  | [] => Nat.le_refl _
  | [_] => Nat.le_refl _
  | x :: y :: l => by
    have := evens_len l
    show (evens l).length + 1 ≤ l.length + 1 + 1
    omega
theorem evens_mem {α : Type _} {a : α} : ∀ {l : List α}, a ∈ evens l → a ∈ l
  | [], h => h
  | [_], h => h
  | x :: y :: l, h => by
    rcases List.mem_cons.mp (show a ∈ x :: evens l from h) with h | h
    · rw [h]; exact List.mem_cons_self
    · exact List.mem_cons_of_mem _ (List.mem_cons_of_mem _ (evens_mem h))
theorem evens_pick {α : Type _} : ∀ l : List α, (List.range ((l.length + 1) / 2)).filterMap (fun m => l[2 * m]?) = evens l
  | [] => by simp [evens]
  | [x] => by simp [evens]
  | x :: y :: l => by
    have ih := evens_pick l
    have e : ((x :: y :: l).length + 1) / 2 = (l.length + 1) / 2 + 1 := by
      show (l.length + 1 + 1 + 1) / 2 = _
      omega
    rw [e, List.range_succ_eq_map, List.filterMap_cons]
    show x :: _ = x :: evens l
    rw [List.filterMap_map, ← ih]
    congr 1
theorem pick_two (xs : Array Value) : ((List.range ((xs.size + 1) / 2)).filterMap fun (m : Nat) => xs[((0 : Int) + (m : Int) * 2).toNat]?).toArray = (evens xs.toList).toArray := by
  rw [← evens_pick xs.toList, Array.length_toList]
  congr 2
  funext m
  have : ((0 : Int) + (m : Int) * 2).toNat = 2 * m := by omega
  rw [this, Array.getElem?_toList]
theorem vals_evens : ∀ {xs : List V} {us : List Value}, Vals xs us → Vals (evens xs) (evens us)
  | _, _, .nil => .nil
  | _, _, .cons h .nil => .cons h .nil
  | _, _, .cons h (.cons _ r) => .cons h (vals_evens r)
theorem getItem_tuple_two {t sl : Addr} {items : Array Value} {vl vu vs : Value} {Q : Value → Shared → Prop} (ht : IsTup s.heap t items) (hs : s.heap.IsSliceOf sl vl vu vs) (pl : IsPart vl none) (pu : IsPart vu none) (ps : IsPart vs (some 2))
    (h : Q (.ref s.heap.objs.size) { s with heap := s.heap.push { cls := .type "tuple", data := .seq (evens items.toList).toArray } })
    (hsz : items.size ≤ sizeLine) : wpAny (model prog w) A (getItem (.ref t) (.ref sl)) Q E s := by
  have htake : sizeOk (.seq (evens items.toList).toArray) := by
    show (evens items.toList).toArray.size ≤ sizeLine
    rw [List.size_toArray]
    exact Nat.le_trans (evens_len _) (by rw [Array.length_toList]; exact hsz)
  obtain ⟨os, hos, hcs, hds⟩ := id hs
  have hTs : s.TypeIs (.ref sl) "slice" := ⟨os, hos, hcs⟩
  unfold getItem
  try with_reducible refine wpAny_holding ?_
  first | refine wpAny_bind (wpAny_pure ?_) | skip
  refine wpAny_bind (wpAny_sequenceKey ht.typeIs (by decide) ?_)
  refine wpAny_bind (wpAny_callSpecial?_slot (name := Str.ofString "__getitem__") ht.typeIs PyProof.Rows.slot_tuple_getitem
    (wpAny_call_entry PyProof.Rows.slot_tuple_getitem ht.typeIs entry_tuple_getitem ?_ (args_tuple_getitem _ _)))
  show wpAny _ _ (Builtin.Tuple.tupleItemsOf (.ref t) >>= _) _ _ s
  refine wpAny_bind (tupleItemsOf_ ht ?_)
  refine wpAny_bind (wpAny_typeOf hTs ?_)
  rw [if_pos (by decide)]
  refine wpAny_bind (sliceApplied_two hs pl pu ps ?_)
  have hno : ¬ (((0 : Int) == 0 && (2 : Int) == 1 && (items.size + 1) / 2 == items.size) = true) := by
    rw [show ((2 : Int) == 1) = false from rfl]
    simp
  show wpAny _ _ (if ((0 : Int) == 0 && (2 : Int) == 1 && (items.size + 1) / 2 == items.size) = true then _ else _) _ _ s
  rw [if_neg hno, pick_two]
  first
    | exact wpAny_bind (m := Builtin.Tuple.tupleExact _) (wpAny_newObj_type (wpAny_pure ⟨_, rfl, wpAny_pure h⟩) htake)
    | exact wpAny_bind (m := Builtin.Tuple.tupleExact _) (wpAny_newObj_type (wpAny_bind (wpAny_pure (wpAny_pure ⟨_, rfl, wpAny_pure h⟩))) htake)
    | exact wpAny_bind (wpAny_bind (m := Builtin.Tuple.tupleExact _) (wpAny_newObj_type (wpAny_pure (wpAny_pure ⟨_, rfl, wpAny_pure h⟩)) htake))
    | exact wpAny_bind (wpAny_bind (m := Builtin.Tuple.tupleExact _) (wpAny_newObj_type (wpAny_pure ⟨_, rfl, wpAny_pure h⟩) htake))
end
/-- t[::2] of a tuple -/
def tTwoT (K : PySem.W.Frag) (te : TE) : TE := fun σ H Q => te σ H fun x H1 => ∃ a xs, x = .ref a ∧ SqT K H1 a xs ∧ ∀ p, H1 p = none → Q (.ref p) (upd H1 p (.tup (evens xs)))
section
variable {X : Cx}
theorem pe_twoT {e : Expr} {te : TE} {k : Nat} {p1 p3 pos : Pos} (he : PE X e te) : PE X (.Subscript e (.Slice none none (some (.Constant (.int 2) k p1)) p3) pos) (tTwoT X.K te) := by
  refine ⟨fun pins s σ H Q I h => ?_⟩
  refine Subscript_ (thn (he.run pins s σ H _ I h) fun v s1 ⟨x, H1, I1, r1, q1⟩ => ?_)
  obtain ⟨a, xs, ex, hx, q⟩ := q1
  subst ex
  cases r1
  have hst : PO X (some (.Constant (.int 2) k p1)) (tPart (tC (.int 2))) := po_some pe_int
  refine wpAny_Slice (thn (po_none.run pins s1 σ H1 (fun o H2 => o = none ∧ H2 = H1) I1 ⟨rfl, rfl⟩) fun vl s2 ⟨l, H2, I2, pl, el, e2⟩ => ?_)
  subst el e2
  refine thn (po_none.run pins s2 σ H2 (fun o H3 => o = none ∧ H3 = H2) I2 ⟨rfl, rfl⟩) fun vu s3 ⟨u, H3, I3, pu, eu, e3⟩ => ?_
  subst eu e3
  refine thn (hst.run pins s3 σ H3 (fun o H4 => o = some 2 ∧ H4 = H3) I3 ⟨2, rfl, rfl, rfl⟩) fun vs s4 ⟨o, H4, I4, ps, eo, e4⟩ => ?_
  subst eo e4
  have I5 : Inv X pins σ H4 { s4 with heap := s4.heap.push { cls := .type "slice", data := .fields #[vl, vu, vs] } } := I4.kept (t' := s4.toks) fun b ob q => Heap.get?_push_of_some _ q
  obtain ⟨its, r, ht, hz⟩ := I5.tuple hx
  have hlen := r.length
  show wpAny (model X.prog X.w) X.A (subscriptTail e (.Slice none none (some (.Constant (.int 2) k p1)) p3) (.ref a) (.ref s4.heap.objs.size)) (EP X pins σ Q) X.xe { s4 with heap := s4.heap.push { cls := .type "slice", data := .fields #[vl, vu, vs] } }
  refine tail_any (ops := [.ref a, .ref s4.heap.objs.size]) ht.typeIs (PyProof.Rows.slot_tuple_getitem.lookup) ?_ (by with_unfolding_all rfl)
  refine getItem_tuple_two ht (Heap.IsSliceOf.new _ vl vu vs) pl pu ps ?_ (by rw [List.size_toArray]; omega)
  refine ⟨.ref _, _, I5.laid (t' := s4.toks) (o := .tup (evens xs)) (fun b ob q => Heap.get?_push_of_some _ q) (Nat.le_refl _) ?_, rfl, q _ (I5.hok.fresh (Nat.le_refl _))⟩
  exact ⟨Nat.le_trans (evens_len _) hz, _, vals_evens r, IsTup.new _ _⟩
end
end L2
namespace Sh
open PySem L2
theorem evens_rep {K : PySem.W.Frag} {mg : Str → Option Value} {r : List Addr} {G : Hp} : ∀ {l : List D} {vs : List V}, Reps K mg r G l vs → Reps K mg r G (evens l) (evens vs)
  | _, _, .nil => .nil
  | _, _, .cons h .nil => .cons h .nil
  | _, _, .cons h (.cons _ q) => .cons h (evens_rep q)
@[simp] def fTwoT (f : EF) : EF := fun sg st => (f sg st).bind fun x st1 => match x with
  | .tup l => .ok (.tup (evens l)) st1
  | _ => .bad
section
variable {X : Cx} {W : We} {e : Expr} {f : EF} {p2 pos : Pos}
theorem se_twoT {k : Nat} {p1 p3 : Pos} (he : SE X W e f) : SE X W (.Subscript e (.Slice none none (some (.Constant (.int 2) k p1)) p3) pos) (fTwoT f) :=
  pe_weak (pe_twoT he) fun σ H Q ⟨m, sg, st, em, rm, rs, hp⟩ => ⟨m, sg, st, em, rm, rs, hp.bindc fun m1 x v st1 e1 r1 q1 hp1 => by
    split at hp1
    · cases q1 with
      | tup k1 k2 => exact ⟨_, _, rfl, sqT_mono r1.sub k1, hp1.lay (α := D) r1 fun p hn => .tup (.of upd_same) (evens_rep (k2.mono (Ext.lay r1 hn)))⟩
    · exact False.elim hp1⟩
end
end Sh
/-! Part ZZE: == and != of instances of two own classes -/
namespace Sh
open PySem L2 PySem.SeqAt
section
variable {X : Cx} {W : We} {base : D → D → Sto → Res D} {k c c2 : Nat} {g C C2 : Addr} {F : FF} {ps : List Str}
theorem looks_ins {pins : List (Addr × Obj)} {s : Shared} {σ : St} {m : Hw} {st : Sto} {y : D} {v : V} {u : Value} {l : List D} (I : Inv X pins σ m.h s) (hc2 : X.mg (cName c2) = some (.ref C2)) (ni : PySem.W.subIn X.K (.ref C2) (.ref C) = some false) (rm : Rel X.K X.mg m st) (q : Rep X.K X.mg m.r m.g y v) (ru : RelV v u)
    (e : insOf c2 y st = some l) : ∃ tb, PySem.W.Looks (model X.prog X.w) s.heap (typeOf u) tb ∧ PySem.W.notFirst X.K C tb = true := by
  obtain ⟨a, ox, od, rfl, J, _⟩ := inst_of I hc2 rm q e
  obtain rfl : u = Value.ref a := ru
  refine ⟨_, J.type, ?_⟩
  unfold PySem.W.notFirst
  rw [ni]
  simp
def dOwnEI (c c2 : Nat) (F : FF) (n : Nat) (base : D → D → Sto → Res D) : D → D → Sto → Res D := fun x y st => match insOf c x st with
  | some _ => match insOf c2 y st with
    | some _ => cF F n [] [x, y] st
    | none => base x y st
  | none => base x y st
theorem BinS.ownEI (h : DefOk X.prog X.w X.K X.mg X.base k g ps [] F) (hr : Room k X.A) (tk : Takes X W.w) (hc : X.mg (cName c) = some (.ref C)) (hc2 : X.mg (cName c2) = some (.ref C2)) (hme : Meth X.K C "__eq__" g) (ni : PySem.W.subIn X.K (.ref C2) (.ref C) = some false) (hb : BinS X W (compareOp .Eq) base) :
    BinS X W (compareOp .Eq) (dOwnEI c c2 F ps.length base) := by
  intro pins s σ m st x y xv yv v u Q I rx ry rm qx qy hp
  unfold dOwnEI at hp
  split at hp
  · rename_i l1 e1
    split at hp
    · rename_i l2 e2
      obtain ⟨a, ox, od, rfl, J, _⟩ := inst_of I hc rm qx e1
      obtain rfl : v = Value.ref a := rx
      obtain ⟨tb, L, hn⟩ := looks_ins (C := C) I hc2 ni rm qy ry e2
      obtain ⟨mm, hF⟩ := I.fr
      obtain ⟨⟨fd, h1, h2, _⟩, h3⟩ := h
      obtain ⟨ds, dv, bb⟩ := h2 0 (Nat.zero_le _)
      show wpAny _ _ (richCompare .Eq (.ref a) u) _ _ _
      refine PySem.W.cmp_K (op := .Eq) (tb := tb) hr.units0 hF I.ok.mod.kin J L hn hme.at_ hme.fn (wpAny_mono (run_meth (us := [u]) (vs := [yv]) h1 hr tk bb ⟨dv, fun _ _ => .nil⟩ qx I (.cons ry .nil) (Ext.refl m) rm (.one qy) hp) (fun w' s' z => ?_) fun _ _ z => z)
      obtain ⟨z', H', I', rz, qz⟩ := z
      exact SlX.cmpback rz ⟨z', H', I', rz, qz⟩
    · exact hb pins s σ m st x y xv yv v u Q I rx ry rm qx qy hp
  · exact hb pins s σ m st x y xv yv v u Q I rx ry rm qx qy hp
def dOwnNeI (c c2 : Nat) (F : FF) (n : Nat) (base : D → D → Sto → Res D) : D → D → Sto → Res D := fun x y st => match insOf c x st with
  | some _ => match insOf c2 y st with
    | some _ => (cF F n [] [x, y] st).bind dNotB
    | none => base x y st
  | none => base x y st
theorem BinS.ownNeI (h : DefOk X.prog X.w X.K X.mg X.base k g ps [] F) (hr : Room (k + 1) X.A) (tk : Takes X W.w) (hc : X.mg (cName c) = some (.ref C)) (hc2 : X.mg (cName c2) = some (.ref C2)) (hme : Meth X.K C "__eq__" g) (hn : NeC X.K C) (ni : PySem.W.subIn X.K (.ref C2) (.ref C) = some false) (hb : BinS X W (compareOp .NotEq) base) :
    BinS X W (compareOp .NotEq) (dOwnNeI c c2 F ps.length base) := by
  intro pins s σ m st x y xv yv v u Q I rx ry rm qx qy hp
  unfold dOwnNeI at hp
  split at hp
  · rename_i l1 e1
    split at hp
    · rename_i l2 e2
      obtain ⟨a, ox, od, rfl, J, _⟩ := inst_of I hc rm qx e1
      obtain rfl : v = Value.ref a := rx
      obtain ⟨tb, L, hnf⟩ := looks_ins (C := C) I hc2 ni rm qy ry e2
      obtain ⟨mm, hF⟩ := I.fr
      show wpAny _ _ (richCompare .NotEq (.ref a) u) _ _ _
      have hu : X.A.units + 1 < cLine := by
        have := hr.in1.units0
        exact this
      refine ne_viaEq hu hF I.ok.mod.kin J L hnf hn.ne hn.so hme.at_ hme.fn (wpAny_mono (run_meth1 (us := [u]) (vs := [yv]) (Q := fun w H3 => ∃ b, w = .bl b ∧ Q (.bl !b) H3) h hr.in1 tk qx I (.cons ry .nil) rm (.one qy) (hp.bindc fun m1 d w st1 e1 r1 q1 hp1 => ?_)) (fun w' s' z => ?_) fun _ _ z => z)
      · unfold dNotB at hp1
        split at hp1
        · cases q1
          exact ⟨_, rfl, hp1.okc r1 (.bl _)⟩
        · exact False.elim hp1
      · obtain ⟨z', H', I', rz, b, rfl, qz⟩ := z
        cases (show w' = Value.bool b from rz)
        exact ⟨b, rfl, .bl !b, H', I', rfl, qz⟩
    · exact hb pins s σ m st x y xv yv v u Q I rx ry rm qx qy hp
  · exact hb pins s σ m st x y xv yv v u Q I rx ry rm qx qy hp
open He in
def bNtI (x y : Str) (K : PySem.W.Frag) : Bool := decide (PySem.W.subIn K (.ref (ga K y)) (.ref (ga K x)) = some false)
open He in
theorem ntI_ok {K : PySem.W.Frag} {x y : Str} (h : bNtI x y K = true) : PySem.W.subIn K (.ref (ga K y)) (.ref (ga K x)) = some false := of_decide_eq_true h
end
end Sh
/-! Part ZZF: a tuple times 0 or 1 -/
namespace L2
open PySem PySem.Spec PyProof.Rows
open AutoSeq1 (wpAny_loadPart')
theorem tuple_mulOne (l : Addr) (items : Array Value) (n : Nat) (dd : Option Addr) (sl : Array (Option Value)) (x : Int) (u : Tok) (c0 : (decide (x < -(2 ^ 63)) || decide (x ≥ 2 ^ 63)) = false) (c1 : (items.isEmpty || x == 1) = true) :
    Meets (Builtin.«tuple.__mul__» ⟨[.ref l, .int x u], []⟩) (fun _ R s => s.heap.get? l = some { cls := .type "tuple", dict := dd, data := .seq items n, slots := sl } ∧
      R (.ok (.ret (Value.ref l))) s) :=
  .of_wp fun prog w A R s h => by
    obtain ⟨hp, g, d, tk, os⟩ := s
    obtain ⟨hl, h⟩ := h
    have f1 := AutoSeq1.idx_int
    wp_walk using wpAny_loadPart' hl
    repeat (first
      | (refine wpAny_ite_false (decide_eq_false (by rw [c0]; exact Bool.false_ne_true)) ?_; wp_walk using wpAny_loadPart' hl)
      | (refine wpAny_ite_true (decide_eq_true c1) ?_; wp_walk using wpAny_loadPart' hl))
    all_goals exact ⟨_, rfl, h⟩
theorem tuple_mulNone (l : Addr) (items : Array Value) (n : Nat) (dd : Option Addr) (sl : Array (Option Value)) (x : Int) (u : Tok) (c0 : (decide (x < -(2 ^ 63)) || decide (x ≥ 2 ^ 63)) = false) (c1 : (items.isEmpty || x == 1) = false) (c2 : (decide (x ≤ 0) || items.isEmpty) = true) :
    Meets (Builtin.«tuple.__mul__» ⟨[.ref l, .int x u], []⟩) (fun _ R s => s.heap.get? l = some { cls := .type "tuple", dict := dd, data := .seq items n, slots := sl } ∧
      R (.ok (.ret (Value.ref s.heap.objs.size))) { s with heap := s.heap.push { cls := Value.type "tuple", data := Data.seq #[] }, toks := s.toks }) :=
  .of_wp fun prog w A R s h => by
    obtain ⟨hp, g, d, tk, os⟩ := s
    obtain ⟨hl, h⟩ := h
    have f1 := AutoSeq1.idx_int
    wp_walk using wpAny_loadPart' hl
    repeat (first
      | (refine wpAny_ite_false (decide_eq_false (by rw [c0]; exact Bool.false_ne_true)) ?_; wp_walk using wpAny_loadPart' hl)
      | (refine wpAny_ite_false (decide_eq_false (by rw [c1]; exact Bool.false_ne_true)) ?_; wp_walk using wpAny_loadPart' hl)
      | (refine wpAny_ite_true (decide_eq_true c2) ?_; wp_walk using wpAny_loadPart' hl)
      | (refine wpAny_ite_false (decide_eq_false (Nat.not_lt.mpr (Nat.zero_le _))) ?_; wp_walk using wpAny_loadPart' hl))
    all_goals exact ⟨_, rfl, h⟩
def rRepU (K : PySem.W.Frag) : R2 := fun x y H Q => ∃ l k xs, x = .ref l ∧ y = .int k ∧ SqT K H l xs ∧ ((k = 1 ∧ Q (.ref l) H) ∨ (k = 0 ∧ xs ≠ [] ∧ ∀ p, H p = none → Q (.ref p) (upd H p (.tup []))))
section
variable {X : Cx}
theorem op_repU : OpR X (binaryOp .Mult) (rRepU X.K) := by
  intro pins s σ H x y v u Q I rx ry h
  obtain ⟨l, k, xs, rfl, rfl, hT, q⟩ := h
  cases rx
  obtain ⟨t, rfl⟩ := ry
  obtain ⟨its, r, ⟨⟨cls, dd, data, sl⟩, ho, hc, n, hd⟩, hs⟩ := I.tuple hT
  simp only at hc hd
  subst hc hd
  rcases q with ⟨rfl, q⟩ | ⟨rfl, hne, q⟩
  · refine wpAny_binaryOp_repeat_ref (T := "tuple") (U := "int") (by decide) ⟨_, ho, rfl⟩ (fun s' => typeIs_int s' 1 t) noFill_tuple_mul F.fills_int_mul F.slot_int_rmul repeat_tuple F.slot_int_index.lookup
      (call_meets F.slot_int_rmul (typeIs_int s 1 t) F.entry_int_rmul (F.args_int_rmul_2 _ _) (int_rmul_tuple 1 t l its.toArray n dd sl)
        ⟨ho, rfl, ⟨_, ho, rfl⟩, call_meets F.slot_tuple_mul ⟨_, ho, rfl⟩ F.entry_tuple_mul (F.args_tuple_mul_2 _ _) (tuple_mulOne l its.toArray n dd sl 1 t (by decide) (by rw [show ((1 : Int) == 1) = true from rfl, Bool.or_true])) ⟨ho, ?_⟩⟩)
    exact ⟨.ref l, H, I, rfl, q⟩
  · have hle : its.length = xs.length := r.length.symm
    have hn : its ≠ [] := fun e => hne (by
      rw [e] at hle
      exact List.eq_nil_of_length_eq_zero hle.symm)
    have hi : its.toArray.isEmpty = false := by
      cases its with
      | nil => exact absurd rfl hn
      | cons a b => rfl
    refine wpAny_binaryOp_repeat_ref (T := "tuple") (U := "int") (by decide) ⟨_, ho, rfl⟩ (fun s' => typeIs_int s' 0 t) noFill_tuple_mul F.fills_int_mul F.slot_int_rmul repeat_tuple F.slot_int_index.lookup
      (call_meets F.slot_int_rmul (typeIs_int s 0 t) F.entry_int_rmul (F.args_int_rmul_2 _ _) (int_rmul_tuple 0 t l its.toArray n dd sl)
        ⟨ho, rfl, ⟨_, ho, rfl⟩, call_meets F.slot_tuple_mul ⟨_, ho, rfl⟩ F.entry_tuple_mul (F.args_tuple_mul_2 _ _) (tuple_mulNone l its.toArray n dd sl 0 t (by decide) (by rw [hi]; rfl) (by rfl)) ⟨ho, ?_⟩⟩)
    refine ⟨.ref s.heap.objs.size, _, I.laid (t' := s.toks) (o := .tup []) (fun b ob q => Heap.get?_push_of_some _ q) (Nat.le_refl _) ?_, rfl, q _ (I.hok.fresh (Nat.le_refl _))⟩
    exact ⟨Nat.zero_le _, [], .nil, IsTup.new _ _⟩
end
end L2
namespace Sh
open PySem L2 He
section
variable {X : Cx} {W : We}
/-- a tuple times 0 or 1 -/
def dRepU : D → D → Sto → Res D
  | .tup l, .int k, st => if k = 1 then .ok (.tup l) st else if k = 0 ∧ l ≠ [] then .ok (.tup []) st else .bad
  | _, _, _ => .bad
theorem fits_repU : Fits2 X W (rRepU X.K) dRepU := by
  intro m st σ x y v w Q rm ra rb hp
  unfold dRepU at hp
  split at hp
  · cases ra with
    | tup h1 h2 =>
      cases rb
      split at hp
      · rename_i h
        exact ⟨_, _, _, rfl, rfl, sqT_mono rm.sub h1, .inl ⟨h, hp.okc rm (.tup h1 h2)⟩⟩
      · split at hp
        · rename_i h
          refine ⟨_, _, _, rfl, rfl, sqT_mono rm.sub h1, .inr ⟨h.1, ?_, hp.lay (α := D) rm fun p hn => .tup (.of upd_same) .nil⟩⟩
          intro z
          subst z
          cases h2
          exact h.2 rfl
        · exact False.elim hp
  · exact False.elim hp
@[simp] theorem ev_dRepU (l : List D) (k : Int) (st : Sto) : dRepU (.tup l) (.int k) st = if k = 1 then .ok (.tup l) st else if k = 0 ∧ l ≠ [] then .ok (.tup []) st else .bad := rfl
end
end Sh
/-! Part ZZG: several except clauses, some with a name -/
namespace Sh
open PySem L2 PyProof.Rows
/-- a clause: its class, its name's slot, what its suite does -/
abbrev Mz := Value × Option Nat × (Addr → Value → Option Addr → TS)
def mixOut : Option Nat → (Addr → Value → Option Addr → TS) → Addr → Value → Option Addr → TS
  | none, ts, a, cls, d => ts a cls d
  | some i, ts, a, cls, d => fun D σ H => ts a cls d (endsOut i D) (σ.set i (some (.ref a))) H
def wMix (K : PySem.W.Frag) (Wo : WX) (D : Ends) : List Mz → WX
  | [] => Wo
  | (c, i, ts) :: r => fun cls d σ H => ∃ b, PySem.W.exmOne K cls c = some b ∧ ((b = true → ∀ a, H a = none → mixOut i ts a cls d D σ H) ∧ (b = false → wMix K Wo D r cls d σ H))
inductive MixOk (X : Cx) : List ExceptHandler → List Mz → Prop
  | nil : MixOk X [] []
  | consO {x : Str} {c : Value} {ts : Addr → Value → Option Addr → TS} {b₀ : Stmt} {su : List Stmt} {np po : Pos} {hds : List ExceptHandler} {l : List Mz} (hc : Names X x c)
      (hsu : ∀ (a : Addr) (oe : Obj) (cls : Value) (d : Option Addr) (pn : List (Addr × Obj)), Zc cls d oe → (∃ vs, oe.data = .fields vs) → PSs (X.suite a ((a, oe) :: pn)) (b₀ :: su) (ts a cls d)) (r : MixOk X hds l) :
      MixOk X (.ExceptHandler (some (.Name x np)) none (b₀ :: su) po :: hds) ((c, none, ts) :: l)
  | consN {x n : Str} {c : Value} {i : Nat} {ts : Addr → Value → Option Addr → TS} {b₀ : Stmt} {su : List Stmt} {np po : Pos} {hds : List ExceptHandler} {l : List Mz} (hi : X.N[i]? = some n) (hl : X.env.kindOf n = some .local) (hc : Names X x c)
      (hsu : ∀ (a : Addr) (oe : Obj) (cls : Value) (d : Option Addr) (pn : List (Addr × Obj)), Zc cls d oe → (∃ vs, oe.data = .fields vs) → PSs (X.suite a ((a, oe) :: pn)) (b₀ :: su) (ts a cls d)) (r : MixOk X hds l) :
      MixOk X (.ExceptHandler (some (.Name x np)) (some n) (b₀ :: su) po :: hds) ((c, some i, ts) :: l)
section
variable {X : Cx} {body : List Stmt} {h₀ : ExceptHandler} {hds : List ExceptHandler} {l : List Mz} {pos : Pos} {tb : WX → TS} {Wo : WX}
theorem ps_tryMix (hs : X.stack = X.env :: X.outer) (hf : X.env.frame = some X.env.locals) (hN : X.N.Nodup) (tk : Takes X Wo)
    (hb : ∀ (W : WX) (pn : List (Addr × Obj)) (xe : Value → Shared → Prop), Takes (X.tr pn xe) W → PassesOwn (model X.prog X.w) X.A X.env xe → PSs (X.tr pn xe) body (tb W)) (hh : MixOk X (h₀ :: hds) l) :
    PS X (.Try body (h₀ :: hds) [] [] pos) (fun D σ H => tb (wMix X.K Wo D l) D σ H) := by
  refine ⟨fun pins s σ H D I h => ?_⟩
  have ok := I.ok
  have hfr : X.A.frames = some (X.env :: X.outer) := by rw [ok.frames, hs]
  let catch_ : Value → Shared → Prop := fun e s₁ => wpAny (model X.prog X.w) X.A (noteFrame e X.env) (fun _ s₂ => wpAny (model X.prog X.w) X.A (setFlight e none) (fun _ s₃ => wpAny (model X.prog X.w) X.A (handleBy e X.env (h₀ :: hds)) (SP X pins D) X.xe s₃) X.xe s₂) X.xe s₁
  refine wpAny_Try_except (wpAny_mono ((hb (wMix X.K Wo D l) (X.pn ++ pins) catch_ (fun u s' xx => ?_) PassesOwn.looking).run [] s σ H D (I.toTry _) h) (fun f s1 hsp => ?_) (fun e s1 he => he))
  · obtain ⟨a, B, sI, pins', σ', H', cls, d, rfl, J', nb, up, sky, na, os, ag, w⟩ := xx
    have J : Inv X pins σ' H' sI := J'.ofTry ok
    have sky' : Sky B (X.env :: X.outer) a (Zc cls d) X.env.locals s'.heap := by rw [← hs]; exact sky
    show wpAny (model X.prog X.w) X.A (noteFrame (.ref a) X.env) _ _ _
    refine Sky.land Zc.steady hfr hf sky' fun h3 fl3 up3 => ?_
    have J3 : Inv X pins σ' H' { s' with heap := h3 } := J.landed nb fl3.1 (up.trans up3) os ag
    obtain ⟨oe3, vs3, he3, hz3, hd3⟩ := fl3.there
    have nfr : a ∉ frs (X.env :: X.outer) := fun hm => by
      obtain ⟨_, o', e', hnf⟩ := fl3.2.2.1.mem hm
      rw [he3] at e'; cases e'
      exact hnf _ hd3
    have nL : a ≠ X.env.locals := fun z => nfr (List.mem_filterMap.mpr ⟨X.env, List.mem_cons_self, by rw [hf, z]⟩)
    have nF : a ∉ X.fs := fun hm => by
      obtain ⟨e, he, q⟩ := List.mem_filterMap.mp hm
      exact nfr (List.mem_filterMap.mpr ⟨e, List.mem_cons_of_mem _ he, q⟩)
    have S3 := J3.suite he3 hd3 na nL nF
    have go : ∀ {hds' : List ExceptHandler} {l' : List Mz}, MixOk X hds' l' → wMix X.K Wo D l' cls d σ' H' → wpAny (model X.prog X.w) X.A (handleBy (.ref a) X.env hds') (SP X pins D) X.xe { s' with heap := h3 } := by
      intro hds' l' hk
      induction hk with
      | nil =>
        intro w
        refine wpAny_handleBy_nil ?_
        obtain ⟨k1, k2, k3, oe, vs, T, oT, ts', he, hz, hd, h1, hr⟩ := id fl3
        unfold PySem.passOn
        refine wpAny_bind (wpAny_field he hd h1 ?_)
        rw [if_neg (show ¬ ((Value.ref T == Value.none) = true) from by simp)]
        have fin : wpAny (model X.prog X.w) X.A (setFlight (.ref a) X.env.frame) (fun _ s4 => wpAny (model X.prog X.w) X.A (throw (.ref a) : Sem Flow) (SP X pins D) X.xe s4) X.xe { s' with heap := h3 } := by
          rw [hf]
          exact HandSPX.setFlight_upZ fl3 fun h4 hh4 up4 => wpAny_throw (tk _ _ ⟨a, B, sI, pins, σ', H', cls, d, rfl, J, nb, (up.trans up3).trans up4, .inr (.inr (by rw [hs]; exact hh4)), na, os, ag, w⟩)
        first
          | exact wpAny_bind (wpAny_pure (wpAny_bind fin))
          | exact wpAny_bind fin
      | @consO x c ts b₀ su np po hds2 l2 hc hsu r ih =>
        intro w
        obtain ⟨b, hb1, hyes, hno⟩ := w
        refine wpAny_handleBy_cons (codeAny_handlers_test ?_) (by intro q; cases q)
        have LT : PySem.W.Looks (model X.prog X.w) h3 (typeOf (.ref a)) cls := fun A Q E s k q => wpAny_typeOf_ref (k _ _ he3) (by rw [hz3.1]; exact q)
        have LM := PySem.W.exm_one (M := model X.prog X.w) (J3.kIn) LT hb1
        have test : ∀ {Q : Value → Shared → Prop} {E : Value → Shared → Prop}, Q c { s' with heap := h3 } → wpAny (model X.prog X.w) (X.A.mark (some (.ref a))) (eval (.Name x np) X.env) Q E { s' with heap := h3 } := fun {Q E} q => by
          obtain ⟨hg, hdbg, hm | ⟨hm, hv, hnn⟩⟩ := hc
          · exact ld_glob (X := X.suite a ((a, oe3) :: (X.pn ++ pins))) S3 hg hm q hdbg
          · exact ld_blt (X := X.suite a ((a, oe3) :: (X.pn ++ pins))) S3 hg hm hv q hnn hdbg
        refine test (LM.here ?_)
        cases b with
        | true =>
          refine codeAny_handlers_suite ?_
          refine HandSPX.lands_againZ fl3 fun h4 fl4 up4 => ?_
          have J4 : Inv X pins σ' H' { s' with heap := h4 } := J.landed nb fl4.1 ((up.trans up3).trans up4) os ag
          obtain ⟨oe4, vs4, he4, hz4, hd4⟩ := fl4.there
          have S4 := J4.suite he4 hd4 na nL nF
          refine wpAny_mono ((hsu a oe4 cls d (X.pn ++ pins) hz4 ⟨_, hd4⟩).run [] _ _ H' _ S4 (hyes rfl a na)) (fun f s6 hsp => ?_) (fun _ _ z => False.elim z)
          cases f with
          | next => exact let ⟨σ6, H6, S6, q6⟩ := hsp; ⟨_, _, S6.unsuite ok, q6⟩
          | brk => exact let ⟨σ6, H6, S6, q6⟩ := hsp; ⟨_, _, S6.unsuite ok, q6⟩
          | cont => exact let ⟨σ6, H6, S6, q6⟩ := hsp; ⟨_, _, S6.unsuite ok, q6⟩
          | ret u => exact let ⟨v6, σ6, H6, S6, r6, q6⟩ := hsp; ⟨_, _, _, S6.unsuite ok, r6, q6⟩
        | false =>
          show wpAny _ X.A (handleBy (.ref a) X.env hds2) _ _ _
          exact ih (hno rfl)
      | @consN x n c i ts b₀ su np po hds2 l2 hi hl hc hsu r ih =>
        intro w
        obtain ⟨b, hb1, hyes, hno⟩ := w
        have hloc : Loc X.env.scope n := .inl hl
        refine wpAny_handleBy_cons (codeAny_handlers_test ?_) (by intro q; cases q)
        have LT : PySem.W.Looks (model X.prog X.w) h3 (typeOf (.ref a)) cls := fun A Q E s k q => wpAny_typeOf_ref (k _ _ he3) (by rw [hz3.1]; exact q)
        have LM := PySem.W.exm_one (M := model X.prog X.w) (J3.kIn) LT hb1
        have test : ∀ {Q : Value → Shared → Prop} {E : Value → Shared → Prop}, Q c { s' with heap := h3 } → wpAny (model X.prog X.w) (X.A.mark (some (.ref a))) (eval (.Name x np) X.env) Q E { s' with heap := h3 } := fun {Q E} q => by
          obtain ⟨hg, hdbg, hm | ⟨hm, hv, hnn⟩⟩ := hc
          · exact ld_glob (X := X.suite a ((a, oe3) :: (X.pn ++ pins))) S3 hg hm q hdbg
          · exact ld_blt (X := X.suite a ((a, oe3) :: (X.pn ++ pins))) S3 hg hm hv q hnn hdbg
        refine test (LM.here ?_)
        cases b with
        | true =>
          refine codeAny_handlers_suite_as (HandSPX.lands_againZ fl3 fun h4 fl4 up4 => ?_)
          have J4 : Inv X pins σ' H' { s' with heap := h4 } := J.landed nb fl4.1 ((up.trans up3).trans up4) os ag
          obtain ⟨oe4, vs4, he4, hz4, hd4⟩ := fl4.there
          refine store_ok (X := X.suite a ((a, oe4) :: (X.pn ++ pins))) (v := .ref a) (J4.suite he4 hd4 na nL nF) hN hi hloc rfl (fun s5 S5 => ?_) (.inr hl)
          refine wpAny_mono ((hsu a oe4 cls d (X.pn ++ pins) hz4 ⟨_, hd4⟩).run [] s5 _ H' _ S5 (hyes rfl a na)) (fun f s6 hsp => ?_) (fun _ _ z => False.elim z)
          have end_ : ∀ {σ6 : L2.St} {H6 : Hp} {Q : Shared → Prop}, Inv (X.suite a ((a, oe4) :: (X.pn ++ pins))) [] σ6 H6 s6 → (∀ s7, Inv X pins (σ6.set i none) H6 s7 → Q s7) → wpAny (model X.prog X.w) X.A (do bindName X.env n .none; unbindBehindTheSuite X.env n po) (fun _ s7 => Q s7) X.xe s6 := fun {σ6 H6 Q} S6 hq => gone_ok (S6.unsuite ok) hN hi hl hq
          cases f with
          | next => exact let ⟨σ6, H6, S6, q6⟩ := hsp; end_ S6 fun s7 J7 => ⟨_, _, J7, q6⟩
          | brk => exact let ⟨σ6, H6, S6, q6⟩ := hsp; end_ S6 fun s7 J7 => ⟨_, _, J7, q6⟩
          | cont => exact let ⟨σ6, H6, S6, q6⟩ := hsp; end_ S6 fun s7 J7 => ⟨_, _, J7, q6⟩
          | ret u => exact let ⟨v6, σ6, H6, S6, r6, q6⟩ := hsp; end_ S6 fun s7 J7 => ⟨_, _, _, J7, r6, q6⟩
        | false => exact ih (hno rfl)
    exact go hh w
  · cases f with
    | next => exact let ⟨σ', H', J', q⟩ := hsp; wpAny_execs_nil ⟨σ', H', J'.ofTry ok, q⟩
    | brk => exact let ⟨σ', H', J', q⟩ := hsp; ⟨σ', H', J'.ofTry ok, q⟩
    | cont => exact let ⟨σ', H', J', q⟩ := hsp; ⟨σ', H', J'.ofTry ok, q⟩
    | ret u => exact let ⟨v, σ', H', J', r, q⟩ := hsp; ⟨v, σ', H', J'.ofTry ok, r, q⟩
end
/-! the same over data by value -/
structure Mx where
  hc : Nat → Option Bool
  nm : Option (Nat × Bool × Nat)
  su : Option D → SF
def pickM : List Mx → Nat → Option D → Sg → Sto → Flw
  | [], c, o, sg, st => .exc c o sg st
  | k :: r, c, o, sg, st => match k.hc c with
    | some true => match k.nm with
      | none => (k.su none sg st).noexc
      | some (c0, fl, i) => if c = c0 ∧ o.isSome = fl then (k.su o (sg.set i none) st).unx i else .bad
    | some false => pickM r c o sg st
    | none => .bad
def sTryM (g : SF) (l : List Mx) : SF := fun sg st => match g sg st with
  | .exc c o sg1 st1 => pickM l c o sg1 st1
  | r => r
def Mx.z (X : Cx) (k : Mx) (cv : Value) : Mz := match k.nm with
  | none => (cv, none, fun a cls d D σ H => SOf X.K X.mg WN0 (k.su none) D σ H)
  | some (c0, fl, i) => (cv, some i, fun a cls d D σ H => ∃ C o, cls = .ref C ∧ X.mg (xName c0) = some (.ref C) ∧ o.isSome = fl ∧ (o = none → d = none) ∧ SOf X.K X.mg (WS ⟨i, a, cls, d, c0, o⟩) (k.su o) D σ H)
inductive MxsOk (X : Cx) : List ExceptHandler → List Mx → List Mz → Prop
  | nil : MxsOk X [] [] []
  | consO {xn : Str} {cv : Value} {hc : Nat → Option Bool} {su : SF} {b₀ : Stmt} {suite : List Stmt} {np pos' : Pos} {hds : List ExceptHandler} {l : List Mx} {z : List Mz} (hnm : Names X xn cv)
      (hh : ∀ c b C, hc c = some b → X.mg (xName c) = some (.ref C) → PySem.W.exmOne X.K (.ref C) cv = some b)
      (hsu : ∀ (a : Addr) (oe : Obj) (pn : List (Addr × Obj)), SSs (X.suite a ((a, oe) :: pn)) WN0 (b₀ :: suite) su)
      (r : MxsOk X hds l z) : MxsOk X (.ExceptHandler (some (.Name xn np)) none (b₀ :: suite) pos' :: hds) (⟨hc, none, fun _ => su⟩ :: l) (Mx.z X ⟨hc, none, fun _ => su⟩ cv :: z)
  | consN {xn n : Str} {cv : Value} {hc : Nat → Option Bool} {c0 i : Nat} {fl : Bool} {su : Option D → SF} {b₀ : Stmt} {suite : List Stmt} {np pos' : Pos} {hds : List ExceptHandler} {l : List Mx} {z : List Mz} (hi : X.N[i]? = some n) (hln : X.env.kindOf n = some .local) (hnm : Names X xn cv)
      (hh : ∀ c b C, hc c = some b → X.mg (xName c) = some (.ref C) → PySem.W.exmOne X.K (.ref C) cv = some b)
      (hsu : ∀ (a : Addr) (oe : Obj) (C : Addr) (d : Option Addr) (o : Option D) (pn : List (Addr × Obj)), X.mg (xName c0) = some (.ref C) → o.isSome = fl → (o = none → d = none) → Zc (.ref C) d oe → (∃ vs, oe.data = .fields vs) → SSs (X.suite a ((a, oe) :: pn)) (WS ⟨i, a, .ref C, d, c0, o⟩) (b₀ :: suite) (su o))
      (r : MxsOk X hds l z) : MxsOk X (.ExceptHandler (some (.Name xn np)) (some n) (b₀ :: suite) pos' :: hds) (⟨hc, some (c0, fl, i), su⟩ :: l) (Mx.z X ⟨hc, some (c0, fl, i), su⟩ cv :: z)
section
variable {X : Cx} {body : List Stmt} {h₀ : ExceptHandler} {hds : List ExceptHandler} {l : List Mx} {z : List Mz} {pos : Pos} {gs : SF} {w : WX}
theorem MxsOk.mix {hds : List ExceptHandler} (h : MxsOk X hds l z) : MixOk X hds z := by
  induction h with
  | nil => exact .nil
  | consO hnm hh hsu r ih => exact .consO hnm (fun a oe cls d pn hz hv => hsu a oe pn) ih
  | consN hi hln hnm hh hsu r ih =>
    exact .consN hi hln hnm (fun a oe cls d pn hz hv => ⟨fun pins s σ H D I ⟨C, o, h1, h2, h4, h5, h3⟩ => by
      subst h1
      exact (hsu a oe C d o pn h2 h4 h5 hz hv).run pins s σ H D I h3⟩) ih
theorem MxsOk.wish {hds : List ExceptHandler} (h : MxsOk X hds l z) {m : Hw} {D : Ends} {c : Nat} {o : Option Sh.D} {sg : Sg} {st : Sto} (hp : PostS X.K X.mg ⟨w, none⟩ m D (pickM l c o sg st)) :
    ∀ m' σ' cls dx, Ext m m' → Rel X.K X.mg m' st → SgRep X.K X.mg none m' sg σ' → XRep X.K X.mg m' c o cls dx → wMix X.K w D z cls dx σ' m'.h := by
  induction h with
  | nil => exact hp
  | @consO xn cv hc su b₀ suite np pos' hds l z hnm hh hsu r ih =>
    intro m' σ' cls dx e' r' s' x'
    have x2 := x'
    obtain ⟨C, k1, k2, k3⟩ := x'
    subst k2
    unfold pickM at hp
    dsimp only at hp
    cases hq : hc c with
    | none => rw [hq] at hp; exact False.elim hp
    | some b =>
      rw [hq] at hp
      refine ⟨b, hh c b C hq k1, fun hbt a ha => ?_, fun hbf => ?_⟩
      · subst hbt
        dsimp only at hp
        exact ⟨m', sg, st, rfl, r', s', noexc_ok (PostS.mono hp e')⟩
      · subst hbf
        exact ih hp m' σ' (.ref C) dx e' r' s' x2
  | @consN xn n cv hc c0 i fl su b₀ suite np pos' hds l z hi hln hnm hh hsu r ih =>
    intro m' σ' cls dx e' r' s' x'
    have x2 := x'
    obtain ⟨C, k1, k2, k3⟩ := x'
    subst k2
    unfold pickM at hp
    dsimp only at hp
    cases hq : hc c with
    | none => rw [hq] at hp; exact False.elim hp
    | some b =>
      rw [hq] at hp
      refine ⟨b, hh c b C hq k1, fun hbt a ha => ?_, fun hbf => ?_⟩
      · subst hbt
        dsimp only at hp
        split at hp
        · rename_i hcc
          obtain ⟨hcc, hfl⟩ := hcc
          subst hcc
          exact ⟨C, o, rfl, k1, hfl, (fun z => by subst z; exact k3), m', sg.set i none, st, rfl, r', SgRep.held (y := ⟨i, a, .ref C, dx, c, o⟩) s' x2, unx_ok (y := ⟨i, a, .ref C, dx, c, o⟩) (PostS.mono hp e')⟩
        · exact False.elim hp
      · subst hbf
        exact ih hp m' σ' (.ref C) dx e' r' s' x2
theorem ss_tryM (hs : X.stack = X.env :: X.outer) (hf : X.env.frame = some X.env.locals) (hN : X.N.Nodup) (tk : Takes X w)
    (hb : ∀ (W' : WX) (pn : List (Addr × Obj)) (xe : Value → Shared → Prop), Takes (X.tr pn xe) W' → PassesOwn (model X.prog X.w) X.A X.env xe → SSs (X.tr pn xe) ⟨W', none⟩ body gs) (hh : MxsOk X (h₀ :: hds) l z) :
    SS X ⟨w, none⟩ (.Try body (h₀ :: hds) [] [] pos) (sTryM gs l) :=
  ps_weak (ps_tryMix (tb := fun W' => SOf X.K X.mg ⟨W', none⟩ gs) hs hf hN tk hb hh.mix) fun D σ H ⟨m, sg, st, e, rm, rs, hp⟩ => ⟨m, sg, st, e, rm, rs, by
    unfold sTryM at hp
    cases hg : gs sg st with
    | exc c o sg1 st1 =>
      rw [hg] at hp
      exact hh.wish hp
    | nx sg1 st1 => rw [hg] at hp; exact hp
    | ret d st1 => rw [hg] at hp; exact hp
    | brk sg1 st1 => rw [hg] at hp; exact hp
    | cnt sg1 st1 => rw [hg] at hp; exact hp
    | bad => rw [hg] at hp; exact hp⟩
end
/-- an expression that is never read -/
theorem se_never {X : Cx} {W : We} {e : Expr} : SE X W e (fun _ _ => .bad) := ⟨fun pins s σ H Q I h => by
  obtain ⟨m, sg, st, _, _, _, hp⟩ := h
  exact False.elim hp⟩
end Sh
/-! Part ZZH: the head's facts over what the module's names reach, step by step (no doubles taken out: a head of more than 60 statements is then still read in the kernel) -/
namespace Sh
open PySem L2 He
def nextD (g : Addr → Option Obj) (as : List Addr) : List Addr := as.flatMap fun a => match g a with
  | some o => refsD o
  | none => []
def asF (g : Addr → Option Obj) : Nat → List Addr → List Addr
  | 0, as => as
  | n + 1, as => as ++ asF g n (nextD g as)
def obsFG (n : Nat) (fx : List (PySem.W.Frag → Bool)) (fn : List DefD) (g : Addr → Option Obj) : AlS := obsS fx fn (frG g (asF g n [mainGlobals]))
def hookF (n : Nat) (fx : List (PySem.W.Frag → Bool)) (fn : List DefD) : PySem.W.Hook where
  α := AlS
  obs := fun s => obsFG n fx fn s.heap.get?
  val := fun _ => valS fn
  says := fun _ h => ∃ K : PySem.W.Frag, K.In h ∧ obsS fx fn K = valS fn
  of := fun _ _ e => ⟨_, frG_in, e⟩
  keeps := fun _ _ _ ⟨K, hK, c⟩ k => ⟨K, PySem.W.Frag.In.keeps hK k, c⟩
theorem obsFG_eq {n : Nat} {fx : List (PySem.W.Frag → Bool)} {fn : List DefD} {g : Addr → Option Obj} {s : Shared} (h : ∀ a, g a = s.heap.get? a) : obsFG n fx fn g = (hookF n fx fn).obs s := by
  have e : g = s.heap.get? := funext h
  rw [e]
  rfl
end Sh
/-! the text by places; what each def means (F_); that it does (ok_). Printed by gen.py, a program of mine. -/
namespace Law
open PySem L2 Sh He
def top (i : Nat) : Stmt := PySem.Challenge.pw_roundline_k80_plans_at_the_desk.main.body.getD i (.Pass ⟨0, 0, 0, 0⟩)
abbrev s_NoDeed_init : Stmt := inClass (top 14) 0
abbrev s_is_whole : Stmt := top 22
abbrev s_is_length : Stmt := top 26
abbrev s_is_window : Stmt := top 24
abbrev s_is_thing : Stmt := top 23
abbrev s_is_plain_deed : Stmt := top 27
abbrev s_is_deed : Stmt := top 28
abbrev s_Plan_init : Stmt := inClass (top 88) 0
abbrev s_Desk_init : Stmt := inClass (top 105) 0
abbrev s_law_pot : Stmt := top 107
abbrev s_law_dip : Stmt := top 108
abbrev s_law_thing : Stmt := top 109
abbrev s_law_plain : Stmt := top 110
abbrev s_law_deed : Stmt := top 111
abbrev s_law_line : Stmt := top 113
abbrev s_law_text : Stmt := top 114
abbrev s_law_due : Stmt := top 116
abbrev s_Desk_remember : Stmt := inClass (top 105) 7
abbrev s_Plan_len : Stmt := inClass (top 88) 2
abbrev s_Desk_turn_to : Stmt := inClass (top 105) 8
abbrev s_Plan_deeds : Stmt := inClass (top 88) 7
abbrev s_deed_text : Stmt := top 91
abbrev s_plan_text : Stmt := top 92
abbrev s_Desk_undo : Stmt := inClass (top 105) 9
abbrev s_Desk_alone : Stmt := inClass (top 105) 2
abbrev s_Plan_add : Stmt := inClass (top 88) 5
abbrev s_Desk_put_deed : Stmt := inClass (top 105) 5
abbrev s_read_number : Stmt := top 90
abbrev s_read_plain : Stmt := top 93
abbrev s_read_deed : Stmt := top 94
abbrev s_number_of : Stmt := top 103
abbrev s_Plan_has : Stmt := inClass (top 88) 6
abbrev s_Plan_without : Stmt := inClass (top 88) 9
abbrev s_Desk_change : Stmt := inClass (top 105) 3
abbrev s_Desk_order : Stmt := inClass (top 105) 1
abbrev s_law_told : Stmt := top 115
abbrev s_law : Stmt := top 117
end Law
namespace Law
open PySem Sh
noncomputable def g_is_whole : SF := (sRet (fAnd (fIsi (tbl tInt) [] (fVar 0)) (fNot (fIsi (tbl tBool) [] (fVar 0)))))
noncomputable def F_is_whole : FF := (fnF 1 g_is_whole)
noncomputable def g_is_length : SF := (sRet (fAnd (fCall (cF F_is_whole 1 []) (aCons (fVar 0) aNil)) (fAnd (fBin dNe (fVar 0) (fC (.int 0))) (fChn dLe dLe (fUn dNeg (fVar 1)) (fVar 0) (fVar 1)))))
noncomputable def F_is_length : FF := (fnF 2 g_is_length)
noncomputable def g_is_window : SF := (sRet (fAnd (fIsi (tbl tStr) [] (fVar 0)) (fBin (dInL false) (fVar 0) (fC (.tup [.str "near", .str "far"])))))
noncomputable def F_is_window : FF := (fnF 1 g_is_window)
noncomputable def b_is_thing_0 : EF := (fBin (dInS false) (fVar 1) (fC (.str "abcdefghijklmnopqrstuvwxyz")))
theorem at_b_is_thing_0 (sg : Sg) (st : Sto) : b_is_thing_0 sg st = (fBin (dInS false) (fVar 1) (fC (.str "abcdefghijklmnopqrstuvwxyz"))) sg st := rfl
noncomputable def g_is_thing : SF := (sSeq (sIf (tOr' (tNot' (tTru (fIsi (tbl tStr) [] (fVar 0)))) (tNot' (tOfE (fChn dLe dLe (fC (.int 1)) (fCall bLen (aCons (fVar 0) aNil)) (fC (.int 8)))))) (sRet (fC (.bl false))) sNil) (sRet (fCall bAll (aCons (fLc [1] (iAny (fVar 0)) (.one 1) tYesD b_is_thing_0) aNil))))
noncomputable def F_is_thing : FF := (fnF 2 g_is_thing)
noncomputable def g_is_plain_deed : SF := (sSeq (sIf (tOr' (tNot' (tTru (fIsi (tbl tTuple) [] (fVar 0)))) (tOr' (tOfE (fBin dEq (fVar 0) (fTup aNil))) (tNot' (tTru (fIsi (tbl tStr) [] (fBin dIx (fVar 0) (fC (.int 0)))))))) (sRet (fC (.bl false))) sNil) (sSeq (sIf (tOfE (fBin dEq (fBin dIx (fVar 0) (fC (.int 0))) (fC (.str "pull")))) (sRet (fAnd (fBin dEq (fCall bLen (aCons (fVar 0) aNil)) (fC (.int 2))) (fCall (cF F_is_length 2 []) (aCons (fBin dIx (fVar 0) (fC (.int 1))) (aCons (fC (.int 40)) aNil))))) sNil) (sSeq (sIf (tOr' (tOfE (fBin dLt (fCall bLen (aCons (fVar 0) aNil)) (fC (.int 2)))) (tNot' (tTru (fCall (cF F_is_window 1 []) (aCons (fBin dIx (fVar 0) (fC (.int 1))) aNil))))) (sRet (fC (.bl false))) sNil) (sSeq (sIf (tOfE (fBin (dInL false) (fBin dIx (fVar 0) (fC (.int 0))) (fTup (aCons (fC (.str "take")) (aCons (fC (.str "look")) aNil))))) (sRet (fBin dEq (fCall bLen (aCons (fVar 0) aNil)) (fC (.int 2)))) sNil) (sSeq (sIf (tOfE (fBin (dInL false) (fBin dIx (fVar 0) (fC (.int 0))) (fTup (aCons (fC (.str "peg")) (aCons (fC (.str "hang")) (aCons (fC (.str "fetch")) aNil)))))) (sRet (fAnd (fBin dEq (fCall bLen (aCons (fVar 0) aNil)) (fC (.int 3))) (fCall (cF F_is_thing 1 []) (aCons (fBin dIx (fVar 0) (fC (.int 2))) aNil)))) sNil) (sRet (fAnd (fBin dEq (fBin dIx (fVar 0) (fC (.int 0))) (fC (.str "walk"))) (fAnd (fBin dEq (fCall bLen (aCons (fVar 0) aNil)) (fC (.int 3))) (fCall (cF F_is_length 2 []) (aCons (fBin dIx (fVar 0) (fC (.int 2))) (aCons (fC (.int 6)) aNil)))))))))))
noncomputable def F_is_plain_deed : FF := (fnF 1 g_is_plain_deed)
noncomputable def g_is_deed : SF := (sSeq (sIf (tOr' (tNot' (tTru (fIsi (tbl tTuple) [] (fVar 0)))) (tOr' (tOfE (fBin dNe (fCall bLen (aCons (fVar 0) aNil)) (fC (.int 4)))) (tOr' (tNot' (tTru (fIsi (tbl tStr) [] (fBin dIx (fVar 0) (fC (.int 0)))))) (tOfE (fBin dNe (fBin dIx (fVar 0) (fC (.int 0))) (fC (.str "when"))))))) (sRet (fCall (cF F_is_plain_deed 1 []) (aCons (fVar 0) aNil))) sNil) (sRet (fAnd (fCall (cF F_is_window 1 []) (aCons (fBin dIx (fVar 0) (fC (.int 1))) aNil)) (fAnd (fOr (fBin dIsN (fBin dIx (fVar 0) (fC (.int 2))) (fC .non)) (fCall (cF F_is_thing 1 []) (aCons (fBin dIx (fVar 0) (fC (.int 2))) aNil))) (fCall (cF F_is_plain_deed 1 []) (aCons (fBin dIx (fVar 0) (fC (.int 3))) aNil))))))
noncomputable def F_is_deed : FF := (fnF 1 g_is_deed)
noncomputable def b_Plan_init_0 : SF := (sIf (tOr' (tOfE (fBin dGe (fVar 2) (fC (.int 12)))) (tNot' (tTru (fCall (cF F_is_deed 1 []) (aCons (fVar 3) aNil))))) (rXc 19 (aCons (fVar 2) aNil)) sNil)
theorem at_b_Plan_init_0 (sg : Sg) (st : Sto) : b_Plan_init_0 sg st = (sIf (tOr' (tOfE (fBin dGe (fVar 2) (fC (.int 12)))) (tNot' (tTru (fCall (cF F_is_deed 1 []) (aCons (fVar 3) aNil))))) (rXc 19 (aCons (fVar 2) aNil)) sNil) sg st := rfl
noncomputable def g_Plan_init : SF := (sSeq (sIf (tNot' (tTru (fIsi (tbl tTuple) [] (fVar 1)))) (rXc 19 (aCons (fC (.int 0)) aNil)) sNil) (sSeq (sFor (iEnumD (aCons (fVar 1) aNil)) (.many [2, 3]) b_Plan_init_0) (sFldS 3 0 (fVar 0) (fVar 1))))
noncomputable def F_Plan_init : FF := (fnF 4 g_Plan_init)
noncomputable def g_Desk_init : SF := (sSeq (sFldS 7 0 (fVar 0) (fCall (mkF 3 F_Plan_init 2 [.tup []]) aNil)) (sSeq (sFldS 7 1 (fVar 0) fNewD) (sFldS 7 2 (fVar 0) (fNew aNil))))
noncomputable def F_Desk_init : FF := (fnF 1 g_Desk_init)
noncomputable def g_law_pot : SF := (sSeq (sSet 2 (fC (.int 0))) (sSeq (sIf (tOfE (fBin dLt (fVar 1) (fCall bLen (aCons (fVar 0) aNil)))) (sSet 2 (fCall bAbs (aCons (fCall bInt (aCons (fBin dIx (fVar 0) (fVar 1)) aNil)) aNil))) sNil) (sRet (fNew (aCons (fCall bMax (aCons (fC (.int 0)) (aCons (fBin dSub (fVar 2) (fBin dPow (fC (.int 10)) (fC (.int 18)))) aNil))) (aCons (fBin dAdd (fBin dMod (fCall bInt (aCons (fVar 2) aNil)) (fBin dAdd (fBin dPow (fC (.int 10)) (fC (.int 33))) (fC (.int 33)))) (fBin dMul (fC (.int 524309)) (fVar 1))) (aCons (fC (.int 0)) aNil)))))))
noncomputable def F_law_pot : FF := (fnF 3 g_law_pot)
noncomputable def g_law_dip : SF := (sSeq (sIf (tOfE (fBin dGt (fBin dIx (fVar 0) (fC (.int 0))) (fC (.int 0)))) (sSeq (sSet 2 (fBin dMod (fCall bInt (aCons (fBin dIx (fVar 0) (fC (.int 0))) aNil)) (fVar 1))) (sSeq (sSub (fVar 0) (fC (.int 0)) (fBin dDiv (fBin dIx (fVar 0) (fC (.int 0))) (fVar 1))) (sRet (fVar 2)))) sNil) (sSeq (sSub (fVar 0) (fC (.int 2)) (fBin dAdd (fBin dIx (fVar 0) (fC (.int 2))) (fC (.int 1)))) (sSeq (sSet 3 (fBin dMod (fCall bInt (aCons (fBin dPow (fBin dAdd (fBin dIx (fVar 0) (fC (.int 1))) (fBin dMul (fC (.int 86028121)) (fBin dIx (fVar 0) (fC (.int 2))))) (fC (.int 3))) aNil)) (fBin dAdd (fBin dPow (fC (.int 10)) (fC (.int 41))) (fC (.int 9))))) (sSeq (sSet 3 (fBin dMod (fCall bInt (aCons (fBin dPow (fBin dAdd (fVar 3) (fBin dMul (fC (.int 179424673)) (fBin dIx (fVar 0) (fC (.int 2))))) (fC (.int 3))) aNil)) (fBin dAdd (fBin dPow (fC (.int 10)) (fC (.int 39))) (fC (.int 57))))) (sRet (fBin dMod (fCall bInt (aCons (fBin dDiv (fVar 3) (fBin dPow (fC (.int 10)) (fC (.int 7)))) aNil)) (fVar 1)))))))
noncomputable def F_law_dip : FF := (fnF 4 g_law_dip)
noncomputable def b_law_thing_0 : EF := (fBin dIx (fC (.str "abcdefghijklmnopqrstuvwxyz")) (fCall (cF F_law_dip 2 []) (aCons (fVar 0) (aCons (fC (.int 26)) aNil))))
theorem at_b_law_thing_0 (sg : Sg) (st : Sto) : b_law_thing_0 sg st = (fBin dIx (fC (.str "abcdefghijklmnopqrstuvwxyz")) (fCall (cF F_law_dip 2 []) (aCons (fVar 0) (aCons (fC (.int 26)) aNil)))) sg st := rfl
noncomputable def g_law_thing : SF := (sSeq (sIf (tOfE (fBin dGt (fCall (cF F_law_dip 2 []) (aCons (fVar 0) (aCons (fC (.int 3)) aNil))) (fC (.int 0)))) (sSeq (sSet 1 (fLst (aCons (fC (.str "sock")) (aCons (fC (.str "a")) (aCons (fC (.str "b")) (aCons (fC (.str "no")) (aCons (fC (.str "yes")) (aCons (fC (.str "when")) (aCons (fC (.str "near")) (aCons (fC (.str "far")) (aCons (fC (.str "peg")) (aCons (fC (.str "zzzzzzzz")) (aCons (fC (.str "ab")) (aCons (fC (.str "ba")) (aCons (fC (.str "d")) (aCons (fC (.str "of")) (aCons (fC (.str "but")) aNil))))))))))))))))) (sRet (fBin dIx (fBin dAdd (fVar 1) (fLst (aCons (fC (.str "nothing")) aNil))) (fCall (cF F_law_dip 2 []) (aCons (fVar 0) (aCons (fC (.int 16)) aNil)))))) sNil) (sSeq (sSet 2 (fBin dAdd (fC (.int 1)) (fCall (cF F_law_dip 2 []) (aCons (fVar 0) (aCons (fC (.int 8)) aNil))))) (sRet (fBM "str" mJoin (fC (.str "")) (aCons (fLc [3] (iRange1 (aCons (fVar 2) aNil)) (.one 3) tYesD b_law_thing_0) aNil)))))
noncomputable def F_law_thing : FF := (fnF 4 g_law_thing)
noncomputable def g_law_plain : SF := (sSeq (sPar3 1 2 3 (aCons (fCall (cF F_law_dip 2 []) (aCons (fVar 0) (aCons (fC (.int 7)) aNil))) (aCons (fBin dIx (fLst (aCons (fC (.str "near")) (aCons (fC (.str "far")) aNil))) (fCall (cF F_law_dip 2 []) (aCons (fVar 0) (aCons (fC (.int 2)) aNil)))) (aCons (fBin dSub (fCall (cF F_law_dip 2 []) (aCons (fVar 0) (aCons (fC (.int 80)) aNil))) (fC (.int 40))) aNil)))) (sSeq (sIf (tOfE (fBin dLt (fVar 1) (fC (.int 3)))) (sRet (fTup (aCons (fBin dIx (fLst (aCons (fC (.str "peg")) (aCons (fC (.str "hang")) (aCons (fC (.str "fetch")) aNil)))) (fVar 1)) (aCons (fVar 2) (aCons (fCall (cF F_law_thing 1 []) (aCons (fVar 0) aNil)) aNil))))) sNil) (sSeq (sIf (tOfE (fBin dEq (fVar 1) (fC (.int 3)))) (sRet (fTup (aCons (fC (.str "pull")) (aCons (fBin dAdd (fVar 3) (fCall bInt (aCons (fBin dGe (fVar 3) (fC (.int 0))) aNil))) aNil)))) sNil) (sSeq (sIf (tOfE (fBin dEq (fVar 1) (fC (.int 4)))) (sSeq (sSet 4 (fBin dSub (fCall (cF F_law_dip 2 []) (aCons (fVar 0) (aCons (fC (.int 12)) aNil))) (fC (.int 6)))) (sRet (fTup (aCons (fC (.str "walk")) (aCons (fVar 2) (aCons (fBin dAdd (fVar 4) (fCall bInt (aCons (fBin dGe (fVar 4) (fC (.int 0))) aNil))) aNil)))))) sNil) (sRet (fTup (aCons (fBin dIx (fLst (aCons (fC (.str "take")) (aCons (fC (.str "look")) aNil))) (fBin dSub (fVar 1) (fC (.int 5)))) (aCons (fVar 2) aNil))))))))
noncomputable def F_law_plain : FF := (fnF 5 g_law_plain)
noncomputable def g_law_deed : SF := (sSeq (sPar 1 2 (aCons (fCall (cF F_law_dip 2 []) (aCons (fVar 0) (aCons (fC (.int 4)) aNil))) (aCons (fBin dIx (fLst (aCons (fC (.str "near")) (aCons (fC (.str "far")) aNil))) (fCall (cF F_law_dip 2 []) (aCons (fVar 0) (aCons (fC (.int 2)) aNil)))) aNil))) (sSeq (sIf (tOfE (fBin dGt (fVar 1) (fC (.int 0)))) (sRet (fCall (cF F_law_plain 1 []) (aCons (fVar 0) aNil))) sNil) (sSeq (sSet 3 (fIfE (tOfE (fBin dEq (fCall (cF F_law_dip 2 []) (aCons (fVar 0) (aCons (fC (.int 4)) aNil))) (fC (.int 0)))) (fC .non) (fCall (cF F_law_thing 1 []) (aCons (fVar 0) aNil)))) (sRet (fTup (aCons (fC (.str "when")) (aCons (fVar 2) (aCons (fVar 3) (aCons (fCall (cF F_law_plain 1 []) (aCons (fVar 0) aNil)) aNil)))))))))
noncomputable def F_law_deed : FF := (fnF 4 g_law_deed)
noncomputable def b_law_line_0 (Fr : FF) : EF := (fCall bStr (aCons (fVar 1) aNil))
theorem at_b_law_line_0 (Fr : FF) (sg : Sg) (st : Sto) : b_law_line_0 Fr sg st = (fCall bStr (aCons (fVar 1) aNil)) sg st := rfl
noncomputable def g_law_line (Fr : FF) : SF := (sSeq (sIf (tOfE (fBin dEq (fBin dIx (fVar 0) (fC (.int 0))) (fC (.str "when")))) (sRet (fBin dAdd (fBin dAdd (fBin dAdd (fBin dAdd (fBin dAdd (fC (.str "when ")) (fBin dIx (fVar 0) (fC (.int 1)))) (fC (.str " "))) (fIfE (tOfE (fBin dIsN (fBin dIx (fVar 0) (fC (.int 2))) (fC .non))) (fC (.str ".")) (fBin dIx (fVar 0) (fC (.int 2))))) (fC (.str ": "))) (fCall (cF Fr 1 []) (aCons (fBin dIx (fVar 0) (fC (.int 3))) aNil)))) sNil) (sRet (fBM "str" mJoin (fC (.str " ")) (aCons (fLc [1] (iTupD (fVar 0)) (.one 1) tYesD (b_law_line_0 Fr)) aNil))))
noncomputable def F_law_line : FF := recF 2 g_law_line 8
noncomputable def b_law_text_0 : EF := (fCall (cF F_law_line 1 []) (aCons (fVar 1) aNil))
theorem at_b_law_text_0 (sg : Sg) (st : Sto) : b_law_text_0 sg st = (fCall (cF F_law_line 1 []) (aCons (fVar 1) aNil)) sg st := rfl
noncomputable def g_law_text : SF := (sRet (fBM "str" mJoin (fC (.str "\n")) (aCons (fLc [1] (iTupD (fVar 0)) (.one 1) tYesD b_law_text_0) aNil)))
noncomputable def F_law_text : FF := (fnF 2 g_law_text)
noncomputable def g_law_due : SF := (sSeq (sIf (tAnd' (tOfE (fBin dEq (fVar 2) (fC (.str "add")))) (tOfE (fBin dEq (fCall bLen (aCons (fVar 1) aNil)) (fC (.int 12))))) (sRet (fTup (aCons (fLst (aCons (fC (.str "room")) aNil)) (aCons (fVar 1) aNil)))) sNil) (sSeq (sIf (tAnd' (tOfE (fBin dEq (fVar 2) (fC (.str "drop")))) (tOfE (fBin dGe (fVar 3) (fCall bLen (aCons (fVar 1) aNil))))) (sRet (fTup (aCons (fLst (aCons (fC (.str "deed")) (aCons (fVar 3) aNil))) (aCons (fVar 1) aNil)))) sNil) (sSeq (sIf (tAnd' (tOfE (fBin dEq (fVar 2) (fC (.str "undo")))) (tOfE (fBin dEqE (fVar 0) (fLst aNil)))) (sRet (fTup (aCons (fLst (aCons (fC (.str "undo")) aNil)) (aCons (fVar 1) aNil)))) sNil) (sSeq (sIf (tOfE (fBin dEq (fVar 2) (fC (.str "undo")))) (sRet (fTup (aCons (fC (.str "undone")) (aCons (fBM "list" mPop (fVar 0) aNil) aNil)))) sNil) (sSeq (sIf (tOfE (fBin dEq (fVar 2) (fC (.str "show")))) (sRet (fTup (aCons (fIfE (tOfE (fBin dNe (fVar 1) (fTup aNil))) (fCall (cF F_law_text 1 []) (aCons (fVar 1) aNil)) (fC (.str "nothing"))) (aCons (fVar 1) aNil)))) sNil) (sSeq (sDrop (fBM "list" mApp (fVar 0) (aCons (fVar 1) aNil))) (sSeq (sSet 5 (fDget (fDisp [((fC (.str "add")), (fBin dAdd (fVar 1) (fTup (aCons (fVar 4) aNil)))), ((fC (.str "clear")), (fTup aNil)), ((fC (.str "drop")), (fBin dAdd (fSl dSl (fVar 1) oNone (oSome (fVar 3))) (fSl dSl (fVar 1) (oSome (fBin dAdd (fVar 3) (fC (.int 1)))) oNone)))]) (fVar 2))) (sRet (fTup (aCons (fBin dAdd (fC (.str "deeds ")) (fCall bStr (aCons (fCall bLen (aCons (fVar 5) aNil)) aNil))) (aCons (fVar 5) aNil)))))))))))
noncomputable def F_law_due : FF := (fnF 6 g_law_due)
noncomputable def g_Desk_remember : SF := (sDrop (fBM "list" mApp (fFld 7 2 (fVar 0)) (aCons (fTup (aCons (fFld 7 0 (fVar 0)) (aCons (fCall bDictC (aCons (fFld 7 1 (fVar 0)) aNil)) aNil))) aNil)))
noncomputable def F_Desk_remember : FF := (fnF 1 g_Desk_remember)
noncomputable def g_Plan_len : SF := (sRet (fCall bLen (aCons (fFld 3 0 (fVar 0)) aNil)))
noncomputable def F_Plan_len : FF := (fnF 1 g_Plan_len)
noncomputable def g_Desk_turn_to : SF := (sSeq (sDrop (fMeth 7 F_Desk_remember 1 [] (fVar 0) aNil)) (sSeq (sFldS 7 0 (fVar 0) (fVar 1)) (sRet (fJs [(fC (.str "deeds ")), (fFmt (fCall (bLenO 3 F_Plan_len bLen) (aCons (fVar 1) aNil)))] Str.empty))))
noncomputable def F_Desk_turn_to : FF := (fnF 2 g_Desk_turn_to)
noncomputable def g_Plan_deeds : SF := (sRet (fFld 3 0 (fVar 0)))
noncomputable def F_Plan_deeds : FF := (fnF 1 g_Plan_deeds)
noncomputable def b_deed_text_0 (Fr : FF) : EF := (fCall bStr (aCons (fVar 1) aNil))
theorem at_b_deed_text_0 (Fr : FF) (sg : Sg) (st : Sto) : b_deed_text_0 Fr sg st = (fCall bStr (aCons (fVar 1) aNil)) sg st := rfl
noncomputable def g_deed_text (Fr : FF) : SF := (sSeq (sIf (tOfE (fBin dEq (fBin dIx (fVar 0) (fC (.int 0))) (fC (.str "when")))) (sRet (fJs [(fC (.str "when ")), (fFmt (fBin dIx (fVar 0) (fC (.int 1)))), (fC (.str " ")), (fFmt (fIfE (tOfE (fBin dIsN (fBin dIx (fVar 0) (fC (.int 2))) (fC .non))) (fC (.str ".")) (fBin dIx (fVar 0) (fC (.int 2))))), (fC (.str ": ")), (fFmt (fCall (cF Fr 1 []) (aCons (fBin dIx (fVar 0) (fC (.int 3))) aNil)))] Str.empty)) sNil) (sRet (fBM "str" mJoin (fC (.str " ")) (aCons (fLc [1] (iAny (fVar 0)) (.one 1) tYesD (b_deed_text_0 Fr)) aNil))))
noncomputable def F_deed_text : FF := recF 2 g_deed_text 8
noncomputable def b_plan_text_0 : EF := (fCall (cF F_deed_text 1 []) (aCons (fVar 1) aNil))
theorem at_b_plan_text_0 (sg : Sg) (st : Sto) : b_plan_text_0 sg st = (fCall (cF F_deed_text 1 []) (aCons (fVar 1) aNil)) sg st := rfl
noncomputable def g_plan_text : SF := (sRet (fBM "str" mJoin (fC (.str "\n")) (aCons (fLc [1] (iTupD (fMeth 3 F_Plan_deeds 1 [] (fVar 0) aNil)) (.one 1) tYesD b_plan_text_0) aNil)))
noncomputable def F_plan_text : FF := (fnF 2 g_plan_text)
noncomputable def g_Desk_undo : SF := (sSeq (sIf (tOfE (fBin dEqE (fFld 7 2 (fVar 0)) (fLst aNil))) (fun sg st => .exc 14 none sg st) sNil) (sSeq (sAsgF [(7, 0, (fVar 0)), (7, 1, (fVar 0))] (fBM "list" mPop (fFld 7 2 (fVar 0)) aNil)) (sRet (fC (.str "undone")))))
noncomputable def F_Desk_undo : FF := (fnF 1 g_Desk_undo)
noncomputable def g_Desk_alone : SF := (sSeq (sIf (tOfE (fBin dEq (fVar 1) (fC (.str "clear")))) (sRet (fMeth 7 F_Desk_turn_to 2 [] (fVar 0) (aCons (fCall (mkF 3 F_Plan_init 2 [.tup []]) aNil) aNil))) sNil) (sSeq (sIf (tOfE (fBin dEq (fVar 1) (fC (.str "show")))) (sRet (fOr (fCall (cF F_plan_text 1 []) (aCons (fFld 7 0 (fVar 0)) aNil)) (fC (.str "nothing")))) sNil) (sSeq (sIf (tOfE (fBin dEq (fVar 1) (fC (.str "story")))) (sRet (fun _ _ => .bad)) sNil) (sSeq (sIf (tOfE (fBin dEq (fVar 1) (fC (.str "carries")))) (sRet (fun _ _ => .bad)) sNil) (sSeq (sIf (tOfE (fBin dEq (fVar 1) (fC (.str "undo")))) (sRet (fMeth 7 F_Desk_undo 1 [] (fVar 0) aNil)) sNil) (fun sg st => .exc 16 none sg st))))))
noncomputable def F_Desk_alone : FF := (fnF 2 g_Desk_alone)
noncomputable def g_Plan_add : SF := (sRet (fCall (mkF 3 F_Plan_init 2 []) (aCons (fBin dAdd (fFld 3 0 (fVar 0)) (fFld 3 0 (fVar 1))) aNil)))
noncomputable def F_Plan_add : FF := (fnF 2 g_Plan_add)
noncomputable def g_Desk_put_deed : SF := (sSeq (sIf (tNot' (tTru (fCall (cF F_is_deed 1 []) (aCons (fVar 1) aNil)))) (fun sg st => .exc 16 none sg st) sNil) (sSeq (sIf (tOfE (fBin dEq (fCall (bLenO 3 F_Plan_len bLen) (aCons (fFld 7 0 (fVar 0)) aNil)) (fC (.int 12)))) (fun sg st => .exc 17 none sg st) sNil) (sRet (fMeth 7 F_Desk_turn_to 2 [] (fVar 0) (aCons (fBin (dOwnI 3 F_Plan_add 2 (fun _ _ _ => .bad)) (fFld 7 0 (fVar 0)) (fCall (mkF 3 F_Plan_init 2 []) (aCons (fTup (aCons (fVar 1) aNil)) aNil))) aNil)))))
noncomputable def F_Desk_put_deed : FF := (fnF 2 g_Desk_put_deed)
noncomputable def g_read_number : SF := (sSeq (sSet 1 (fIfE (tTru (fBM "str" (mS2B Txt.startswith) (fVar 0) (aCons (fC (.str "-")) aNil))) (fSl dSl (fVar 0) (oSome (fC (.int 1))) oNone) (fVar 0))) (sSeq (sIf (tOr' (tNot' (tTru (fBM "str" mDigit (fVar 1) aNil))) (tAnd' (tTru (fBM "str" (mS2B Txt.startswith) (fVar 1) (aCons (fC (.str "0")) aNil))) (tOfE (fBin dNe (fVar 0) (fC (.str "0")))))) (sRet (fC .non)) sNil) (sRet (fCall bIntS (aCons (fVar 0) aNil)))))
noncomputable def F_read_number : FF := (fnF 2 g_read_number)
noncomputable def g_read_plain : SF := (sSeq (sSet 1 (fBM "str" mSplit (fVar 0) (aCons (fC (.str " ")) aNil))) (sSeq (sIf (tOfE (fBin (dInL false) (fBin dIx (fVar 1) (fC (.int 0))) (fTup (aCons (fC (.str "pull")) (aCons (fC (.str "walk")) aNil))))) (sRet (fTup (aStar (fSl dSl (fVar 1) oNone (oSome (fUn dNeg (fC (.int 1))))) (aCons (fCall (cF F_read_number 1 []) (aCons (fBin dIx (fVar 1) (fUn dNeg (fC (.int 1)))) aNil)) aNil)))) sNil) (sRet (fCall bTuple (aCons (fVar 1) aNil)))))
noncomputable def F_read_plain : FF := (fnF 2 g_read_plain)
noncomputable def g_read_deed : SF := (sSeq (sAsg (.many [1, 2, 3]) (fBM "str" mPart (fVar 0) (aCons (fC (.str ": ")) aNil))) (sSeq (sIf (tNot' (tTru (fVar 2))) (sRet (fCall (cF F_read_plain 1 []) (aCons (fVar 0) aNil))) sNil) (sSeq (sSet 4 (fBM "str" mSplit (fVar 1) (aCons (fC (.str " ")) aNil))) (sSeq (sIf (tOfE (fBin dNe (fCall bLen (aCons (fVar 4) aNil)) (fC (.int 3)))) (sRet (fC .non)) sNil) (sSeq (sAsgL [5, 6, 7] (fVar 4)) (sRet (fTup (aCons (fVar 5) (aCons (fVar 6) (aCons (fIfE (tOfE (fBin dEq (fVar 7) (fC (.str ".")))) (fC .non) (fVar 7)) (aCons (fCall (cF F_read_plain 1 []) (aCons (fVar 3) aNil)) aNil)))))))))))
noncomputable def F_read_deed : FF := (fnF 8 g_read_deed)
noncomputable def g_number_of : SF := (sSeq (sSet 3 (fCall (cF F_read_number 1 []) (aCons (fVar 0) aNil))) (sSeq (sIf (tOr' (tOfE (fBin dIsN (fVar 3) (fC .non))) (tNot' (tOfE (fChn dLe dLe (fVar 1) (fVar 3) (fVar 2))))) (fun sg st => .exc 16 none sg st) sNil) (sRet (fVar 3))))
noncomputable def F_number_of : FF := (fnF 4 g_number_of)
noncomputable def g_Plan_has : SF := (sRet (fAnd (fCall (cF F_is_whole 1 []) (aCons (fVar 1) aNil)) (fChn dLe dLt (fC (.int 0)) (fVar 1) (fCall bLen (aCons (fFld 3 0 (fVar 0)) aNil)))))
noncomputable def F_Plan_has : FF := (fnF 2 g_Plan_has)
noncomputable def b_Plan_without_0 : SF := (sSeq (sIf (tOr' (tNot' (tTru (fMeth 3 F_Plan_has 2 [] (fVar 0) (aCons (fVar 3) aNil)))) (tOfE (fBin (dInL false) (fVar 3) (fVar 2)))) (rXc 19 (aCons (fVar 3) aNil)) sNil) (sDrop (fBM "list" mApp (fVar 2) (aCons (fVar 3) aNil))))
theorem at_b_Plan_without_0 (sg : Sg) (st : Sto) : b_Plan_without_0 sg st = (sSeq (sIf (tOr' (tNot' (tTru (fMeth 3 F_Plan_has 2 [] (fVar 0) (aCons (fVar 3) aNil)))) (tOfE (fBin (dInL false) (fVar 3) (fVar 2)))) (rXc 19 (aCons (fVar 3) aNil)) sNil) (sDrop (fBM "list" mApp (fVar 2) (aCons (fVar 3) aNil)))) sg st := rfl
noncomputable def b_Plan_without_1 : EF := (fVar 4)
theorem at_b_Plan_without_1 (sg : Sg) (st : Sto) : b_Plan_without_1 sg st = (fVar 4) sg st := rfl
noncomputable def b_Plan_without_2 : TF := (tOfE (fBin (dInL true) (fVar 3) (fVar 2)))
theorem at_b_Plan_without_2 (sg : Sg) (st : Sto) : b_Plan_without_2 sg st = (tOfE (fBin (dInL true) (fVar 3) (fVar 2))) sg st := rfl
noncomputable def g_Plan_without : SF := (sSeq (sIf (tNot' (tTru (fIsi (tbl tTuple) [] (fVar 1)))) (rXc 19 (aCons (fC (.int 0)) aNil)) sNil) (sSeq (sSet 2 (fNew aNil)) (sSeq (sFor (iTupD (fVar 1)) (.one 3) b_Plan_without_0) (sRet (fCall (mkF 3 F_Plan_init 2 []) (aCons (fCall bTuple (aCons (fLc [3, 4] (iEnumD (aCons (fFld 3 0 (fVar 0)) aNil)) (.many [3, 4]) b_Plan_without_2 b_Plan_without_1) aNil)) aNil))))))
noncomputable def F_Plan_without : FF := (fnF 5 g_Plan_without)
noncomputable def g_Desk_change : SF := (sSeq (sIf (tOfE (fBin dEq (fVar 1) (fC (.str "add")))) (sRet (fMeth 7 F_Desk_put_deed 2 [] (fVar 0) (aCons (fCall (cF F_read_deed 1 []) (aCons (fVar 2) aNil)) aNil))) sNil) (sSeq (sIf (tOfE (fBin dEq (fVar 1) (fC (.str "drop")))) (sSeq (sSet 3 (fCall (cF F_number_of 3 []) (aCons (fVar 2) (aCons (fC (.int 0)) (aCons (fC (.int 99)) aNil))))) (sSeq (sIf (tOfE (fBin dGe (fVar 3) (fCall (bLenO 3 F_Plan_len bLen) (aCons (fFld 7 0 (fVar 0)) aNil)))) (rXc 19 (aCons (fVar 3) aNil)) sNil) (sRet (fMeth 7 F_Desk_turn_to 2 [] (fVar 0) (aCons (fMeth 3 F_Plan_without 2 [] (fFld 7 0 (fVar 0)) (aCons (fTup (aCons (fVar 3) aNil)) aNil)) aNil))))) sNil) (sSeq (sSet 4 (fun _ _ => .bad)) (sSeq (sIf (tOfE (fBin dEq (fVar 1) (fC (.str "take")))) (sRet (fMeth 7 F_Desk_turn_to 2 [] (fVar 0) (aCons (fun _ _ => .bad) aNil))) sNil) (sSeq (sDrop (fMeth 7 F_Desk_remember 1 [] (fVar 0) aNil)) (sSeq (sDput (fFld 7 1 (fVar 0)) (fVar 4) (fFld 7 0 (fVar 0))) (sRet (fC (.str "kept")))))))))
noncomputable def F_Desk_change : FF := (fnF 5 g_Desk_change)
noncomputable def g_Desk_order : SF := (sSeq (sIf (tNot' (tTru (fIsi (tbl tStr) [] (fVar 1)))) (fun sg st => .exc 16 none sg st) sNil) (sSeq (sAsg (.many [2, 3, 4]) (fBM "str" mPart (fVar 1) (aCons (fC (.str " ")) aNil))) (sSeq (sIf (tNot' (tTru (fVar 3))) (sRet (fMeth 7 F_Desk_alone 2 [] (fVar 0) (aCons (fVar 2) aNil))) sNil) (sSeq (sIf (tOfE (fBin (dInL false) (fVar 2) (fTup (aCons (fC (.str "add")) (aCons (fC (.str "drop")) (aCons (fC (.str "take")) (aCons (fC (.str "keep")) aNil))))))) (sRet (fMeth 7 F_Desk_change 3 [] (fVar 0) (aCons (fVar 2) (aCons (fVar 4) aNil)))) sNil) (sRet (fun _ _ => .bad))))))
noncomputable def F_Desk_order : FF := (fnF 5 g_Desk_order)
noncomputable def g_law_told : SF := (sSeq (sTryM (sSet 2 (fMeth 7 F_Desk_order 2 [] (fVar 0) (aCons (fVar 1) aNil))) [⟨(fun c => if c = 14 then some false else if c = 16 then some false else if c = 17 then some true else if c = 19 then some false else none), none, fun _ => (sSet 2 (fLst (aCons (fC (.str "room")) aNil)))⟩, ⟨(fun c => if c = 14 then some false else if c = 16 then some false else if c = 17 then some false else if c = 19 then some true else none), some (19, true, 3), fun o => (sSet 2 (fLst (aCons (fC (.str "deed")) (aCons (fXf 3 o) aNil))))⟩, ⟨(fun c => if c = 14 then some true else if c = 16 then some false else if c = 17 then some false else if c = 19 then some false else none), none, fun _ => (sSet 2 (fLst (aCons (fC (.str "undo")) aNil)))⟩]) (sRet (fVar 2)))
noncomputable def F_law_told : FF := (fnF 4 g_law_told)
noncomputable def b_law_0 : SF := (sSeq (sSet 7 (fBin dIx (fLst (aCons (fC (.str "add")) (aCons (fC (.str "add")) (aCons (fC (.str "add")) (aCons (fC (.str "add")) (aCons (fC (.str "drop")) (aCons (fC (.str "drop")) (aCons (fC (.str "show")) (aCons (fC (.str "undo")) (aCons (fC (.str "undo")) (aCons (fC (.str "clear")) aNil))))))))))) (fCall (cF F_law_dip 2 []) (aCons (fVar 5) (aCons (fC (.int 10)) aNil))))) (sSeq (sIf (tAnd' (tOfE (fBin dEq (fVar 7) (fC (.str "clear")))) (tOfE (fBin dGt (fCall (cF F_law_dip 2 []) (aCons (fVar 5) (aCons (fC (.int 3)) aNil))) (fC (.int 0))))) (sSet 7 (fC (.str "add"))) sNil) (sSeq (sPar 8 9 (aCons (fCall (cF F_law_dip 2 []) (aCons (fVar 5) (aCons (fBin dIx (fLst (aCons (fBin dAdd (fCall bLen (aCons (fVar 2) aNil)) (fC (.int 1))) (aCons (fC (.int 100)) aNil))) (fCall bInt (aCons (fBin dEq (fCall (cF F_law_dip 2 []) (aCons (fVar 5) (aCons (fC (.int 8)) aNil))) (fC (.int 0))) aNil))) aNil))) (aCons (fCall (cF F_law_deed 1 []) (aCons (fVar 5) aNil)) aNil))) (sSeq (sSet 10 (fDisp [((fC (.str "add")), (fBin dAdd (fC (.str "add ")) (fCall (cF F_law_line 1 []) (aCons (fVar 9) aNil)))), ((fC (.str "drop")), (fBin dAdd (fC (.str "drop ")) (fCall bStr (aCons (fVar 8) aNil))))])) (sSeq (sAsg (.many [11, 2]) (fCall (cF F_law_due 5 []) (aCons (fVar 3) (aCons (fVar 2) (aCons (fVar 7) (aCons (fVar 8) (aCons (fVar 9) aNil))))))) (sSeq (sSet 12 (fCall (cF F_law_told 2 []) (aCons (fVar 1) (aCons (fGet2 (fVar 10) (fVar 7) (fVar 7)) aNil)))) (sIf (tOr' (tOfE (fBin dNe (fVar 12) (fVar 11))) (tOfE (fBin dNe (fIsi (tbl tStr) [] (fVar 12)) (fIsi (tbl tStr) [] (fVar 11))))) (sRet (fC (.bl false))) sNil)))))))
theorem at_b_law_0 (sg : Sg) (st : Sto) : b_law_0 sg st = (sSeq (sSet 7 (fBin dIx (fLst (aCons (fC (.str "add")) (aCons (fC (.str "add")) (aCons (fC (.str "add")) (aCons (fC (.str "add")) (aCons (fC (.str "drop")) (aCons (fC (.str "drop")) (aCons (fC (.str "show")) (aCons (fC (.str "undo")) (aCons (fC (.str "undo")) (aCons (fC (.str "clear")) aNil))))))))))) (fCall (cF F_law_dip 2 []) (aCons (fVar 5) (aCons (fC (.int 10)) aNil))))) (sSeq (sIf (tAnd' (tOfE (fBin dEq (fVar 7) (fC (.str "clear")))) (tOfE (fBin dGt (fCall (cF F_law_dip 2 []) (aCons (fVar 5) (aCons (fC (.int 3)) aNil))) (fC (.int 0))))) (sSet 7 (fC (.str "add"))) sNil) (sSeq (sPar 8 9 (aCons (fCall (cF F_law_dip 2 []) (aCons (fVar 5) (aCons (fBin dIx (fLst (aCons (fBin dAdd (fCall bLen (aCons (fVar 2) aNil)) (fC (.int 1))) (aCons (fC (.int 100)) aNil))) (fCall bInt (aCons (fBin dEq (fCall (cF F_law_dip 2 []) (aCons (fVar 5) (aCons (fC (.int 8)) aNil))) (fC (.int 0))) aNil))) aNil))) (aCons (fCall (cF F_law_deed 1 []) (aCons (fVar 5) aNil)) aNil))) (sSeq (sSet 10 (fDisp [((fC (.str "add")), (fBin dAdd (fC (.str "add ")) (fCall (cF F_law_line 1 []) (aCons (fVar 9) aNil)))), ((fC (.str "drop")), (fBin dAdd (fC (.str "drop ")) (fCall bStr (aCons (fVar 8) aNil))))])) (sSeq (sAsg (.many [11, 2]) (fCall (cF F_law_due 5 []) (aCons (fVar 3) (aCons (fVar 2) (aCons (fVar 7) (aCons (fVar 8) (aCons (fVar 9) aNil))))))) (sSeq (sSet 12 (fCall (cF F_law_told 2 []) (aCons (fVar 1) (aCons (fGet2 (fVar 10) (fVar 7) (fVar 7)) aNil)))) (sIf (tOr' (tOfE (fBin dNe (fVar 12) (fVar 11))) (tOfE (fBin dNe (fIsi (tbl tStr) [] (fVar 12)) (fIsi (tbl tStr) [] (fVar 11))))) (sRet (fC (.bl false))) sNil))))))) sg st := rfl
noncomputable def b_law_1 : SF := (sSeq (sSet 5 (fCall (cF F_law_pot 2 []) (aCons (fVar 0) (aCons (fVar 4) aNil)))) (sFor (iRange1 (aCons (fBin dAdd (fC (.int 1)) (fCall (cF F_law_dip 2 []) (aCons (fVar 5) (aCons (fC (.int 3)) aNil)))) aNil)) (.one 6) b_law_0))
theorem at_b_law_1 (sg : Sg) (st : Sto) : b_law_1 sg st = (sSeq (sSet 5 (fCall (cF F_law_pot 2 []) (aCons (fVar 0) (aCons (fVar 4) aNil)))) (sFor (iRange1 (aCons (fBin dAdd (fC (.int 1)) (fCall (cF F_law_dip 2 []) (aCons (fVar 5) (aCons (fC (.int 3)) aNil)))) aNil)) (.one 6) b_law_0)) sg st := rfl
noncomputable def g_law : SF := (sSeq (sPar3 1 2 3 (aCons (fCall (mkL 7 F_Desk_init 1 []) aNil) (aCons (fTup aNil) (aCons (fNew aNil) aNil)))) (sSeq (sFor (iRange1 (aCons (fCall bMax (aCons (fC (.int 1)) (aCons (fCall bMin (aCons (fC (.int 63)) (aCons (fCall bLen (aCons (fVar 0) aNil)) aNil))) aNil))) aNil)) (.one 4) b_law_1) (sSeq (sSet 13 (fIfE (tOfE (fBin dNe (fVar 2) (fTup aNil))) (fCall (cF F_law_text 1 []) (aCons (fVar 2) aNil)) (fC (.str "nothing")))) (sRet (fAnd (fBin dEq (fMeth 7 F_Desk_order 2 [] (fVar 1) (aCons (fC (.str "show")) aNil)) (fVar 13)) (fAnd (fBin dEq (fMethK 7 (cK F_Desk_order 2 1 1 [(0, 0), (2, 0)] []) (fVar 1) (aCons (fC (.str "show")) aNil)) (fVar 13)) (fBin dEq (fMeth 7 F_Desk_order 2 [] (fCall (mkL 7 F_Desk_init 1 []) aNil) (aCons (fC (.str "show")) aNil)) (fC (.str "nothing")))))))))
noncomputable def F_law : FF := (fnF 14 g_law)
def law_N : List Str := ["_law_script", "_law_desk", "_law_row", "_law_past", "_law_k", "_law_pot_here", "_law_lap", "_law_way", "_law_number", "_law_deed_here", "_law_words", "_law_due_here", "_law_told_here", "_law_last"]
end Law
/-! the pot from which a law draws -/
namespace Law
open PySem Sh
/-- a pot at n, dipped into at most t times -/
def Pot (st : Sto) (n : Nat) (t : Int) : Prop := ∃ p c u : Int, st[n]? = some (.lst [.int p, .int c, .int u]) ∧ 0 ≤ p ∧ 0 ≤ c ∧ c < 2 ^ 120 ∧ 0 ≤ u ∧ u ≤ t
theorem Pot.le {st : Sto} {n : Nat} {t t' : Int} (h : Pot st n t) (e : t ≤ t') : Pot st n t' :=
  let ⟨p, c, u, h1, h2, h3, h4, h5, h6⟩ := h; ⟨p, c, u, h1, h2, h3, h4, h5, Int.le_trans h6 e⟩
theorem Pot.append {st : Sto} {n : Nat} {t : Int} (h : Pot st n t) (r : Sto) : Pot (st ++ r) n t :=
  let ⟨p, c, u, h1, h2⟩ := h; ⟨p, c, u, by rw [List.getElem?_append_left (List.getElem?_eq_some_iff.mp h1).1]; exact h1, h2⟩
theorem pot_raw (l : List Int) (k : Nat) (st : Sto) (hk : k < 64) : ∃ x : Int, F_law_pot [.scr l, .int k] st = .ok (.loc st.length) (st ++ [.lst [.int (if x - 10 ^ 18 > 0 then x - 10 ^ 18 else 0), .int (x % (10 ^ 33 + 33) + 524309 * k), .int 0]]) := by
  have p18 : powOk 10 18 := by decide
  have p33 : powOk 10 33 := by decide
  have m1 : mulOk 524309 (k : Int) := mulOk_of (a := 20) (b := 10) (by decide) (by
    have : ((k : Int)).natAbs = k := rfl
    rw [this]; omega) (by decide) (by decide) (by decide)
  by_cases h : k < l.length
  · exact ⟨if l[k] < 0 then -l[k] else l[k], by simp -implicitDefEqProofs [F_law_pot, g_law_pot, p18, p33, m1, h]⟩
  · exact ⟨0, by simp -implicitDefEqProofs [F_law_pot, g_law_pot, p18, p33, m1, h]⟩
theorem pot_ok (l : List Int) (k : Nat) (st : Sto) (hk : k < 64) : ∃ o, F_law_pot [.scr l, .int k] st = .ok (.loc st.length) (st ++ [o]) ∧ Pot (st ++ [o]) st.length 0 := by
  obtain ⟨x, hx⟩ := pot_raw l k st hk
  have h1 : 0 ≤ x % (10 ^ 33 + 33) := Int.emod_nonneg _ (by decide)
  have h2 : x % (10 ^ 33 + 33) < 10 ^ 33 + 33 := Int.emod_lt_of_pos _ (by decide)
  refine ⟨_, hx, ⟨_, _, _, by rw [List.getElem?_append_right (Nat.le_refl _), Nat.sub_self]; rfl, ?_, ?_, ?_, Int.le_refl _, Int.le_refl _⟩⟩
  · split <;> omega
  · omega
  · omega
/-- a dip: some number below many -/
theorem dip_ok {st : Sto} {n : Nat} {t m : Int} (h : Pot st n t) (ht : t < 2 ^ 60) (hm : 1 ≤ m) (hm2 : m < 2 ^ 200) :
    ∃ (r : Int) (o : SO), F_law_dip [.loc n, .int m] st = .ok (.int r) (st.set n o) ∧ 0 ≤ r ∧ r < m ∧ Pot (st.set n o) n (t + 1) := by
  obtain ⟨p, c, u, h1, h2, h3, h4, h5, h6⟩ := h
  have hn : n < st.length := (List.getElem?_eq_some_iff.mp h1).1
  have e2 : st[n] = .lst [.int p, .int c, .int u] := (List.getElem?_eq_some_iff.mp h1).2
  have m0 : 0 < m := by omega
  have dm : divOk m := divOk_of (b := 200) (nat_lt_pow (by omega) hm2) (by decide) (by decide)
  have r1 : ∀ x : Int, 0 ≤ x % m ∧ x % m < m := fun x => ⟨Int.emod_nonneg _ (by omega), Int.emod_lt_of_pos _ m0⟩
  by_cases hp : 0 < p
  · refine ⟨p % m, .lst [.int (p / m), .int c, .int u], by simp -implicitDefEqProofs [F_law_dip, g_law_dip, h1, hp, m0, dm], (r1 p).1, (r1 p).2, ⟨p / m, c, u, by simp [hn], Int.ediv_nonneg h2 (by omega), h3, h4, h5, by omega⟩⟩
  · have p1 : powOk 10 41 := by decide
    have p2 : powOk 10 39 := by decide
    have p3 : powOk 10 7 := by decide
    have a0 : 0 ≤ c + 86028121 * (u + 1) ∧ c + 86028121 * (u + 1) < 2 ^ 130 := by omega
    have q1 : powOk (c + 86028121 * (u + 1)) 3 := powOk_of (n := 130) (nat_lt_pow a0.1 a0.2) (by decide) (by decide)
    have mm1 : mulOk 86028121 (u + 1) := mulOk_of (a := 30) (b := 61) (by decide) (nat_lt_pow (by omega) (by omega)) (by decide) (by decide) (by decide)
    have mm2 : mulOk 179424673 (u + 1) := mulOk_of (a := 30) (b := 61) (by decide) (nat_lt_pow (by omega) (by omega)) (by decide) (by decide) (by decide)
    have hx : ∀ x : Int, 0 ≤ x % (10 ^ 41 + 9) ∧ x % (10 ^ 41 + 9) < 10 ^ 41 + 9 := fun x => ⟨Int.emod_nonneg _ (by decide), Int.emod_lt_of_pos _ (by decide)⟩
    have q2 : ∀ x : Int, powOk (x % (10 ^ 41 + 9) + 179424673 * (u + 1)) 3 := fun x => powOk_of (n := 150) (nat_lt_pow (by have := hx x; omega) (by have := hx x; omega)) (by decide) (by decide)
    have d7 : divOk (10 ^ 7) := by decide
    have q2' : ∀ x : Int, powOk (x % 100000000000000000000000000000000000000009 + 179424673 * (u + 1)) 3 := q2
    have d7' : divOk 10000000 := d7
    refine ⟨((((c + 86028121 * (u + 1)) ^ 3 % (10 ^ 41 + 9) + 179424673 * (u + 1)) ^ 3 % (10 ^ 39 + 57)) / 10 ^ 7) % m, .lst [.int p, .int c, .int (u + 1)], ?_, (r1 _).1, (r1 _).2, ⟨p, c, u + 1, by simp [hn], h2, h3, h4, by omega, by omega⟩⟩
    simp -implicitDefEqProofs [F_law_dip, g_law_dip, h1, e2, hp, m0, hn, p1, p2, p3, q1, mm1, mm2, q2', d7']
theorem dip_to {st : Sto} {n : Nat} {t m : Int} (h : Pot st n t) (ht : t < 2 ^ 59) (hm : 1 ≤ m) (hm2 : m < 2 ^ 200) :
    ∃ (r : Int) (st' : Sto), F_law_dip [.loc n, .int m] st = .ok (.int r) st' ∧ 0 ≤ r ∧ r < m ∧ Pot st' n (t + 1) := by
  obtain ⟨r, o, h1, h2, h3, h4⟩ := dip_ok h (by omega) hm hm2
  exact ⟨r, _, h1, h2, h3, h4⟩
end Law
namespace Law
open PySem Sh
def isWh : D → Bool
  | .int _ => true
  | _ => false
def plainD : D → Bool
  | .non => true
  | .bl _ => true
  | .int _ => true
  | .str _ => true
  | .tup _ => true
  | .lst _ => true
  | .edict => true
  | _ => false
theorem whole_ok {d : D} {st : Sto} (h : plainD d = true) : F_is_whole [d] st = .ok (.bl (isWh d)) st := by
  cases d <;> first | rfl | (simp [plainD] at h; done)
end Law
/-! deeds -/
namespace Law
open PySem Sh
theorem lc_map {ck : Sto → Prop} {t : Tg} {c : TF} {f : EF} {sg : Sg} {st : Sto} (h : D → D) (hc : ck st) (l : List D)
    (hf : ∀ d ∈ l, ∃ sg1, setT t d sg = some sg1 ∧ c sg1 st = .ok true st ∧ f sg1 st = .ok (h d) st) : lcF ck t c f sg l st = .ok (l.map h) st := by
  have := lc_keep (ck := ck) (t := t) (c := c) (f := f) (sg := sg) (st := st) (fun d => some (h d)) hc l fun d hd => by
    obtain ⟨sg1, e1, e2, e3⟩ := hf d hd
    exact ⟨sg1, e1, .inr ⟨e2, h d, e3, rfl⟩⟩
  rw [this]
  congr 1
  induction l with
  | nil => rfl
  | cons a l ih => simp
def winS : Bool → Str
  | true => "far"
  | false => "near"
inductive Pl where
  | peg (w : Bool) (x : Str) | hang (w : Bool) (x : Str) | fetch (w : Bool) (x : Str) | take (w : Bool) | look (w : Bool) | pull (n : Int) | walk (w : Bool) (n : Int)
inductive Dd where
  | pl (p : Pl) | wh (w : Bool) (x : Option Str) (p : Pl)
def Pl.d : Pl → D
  | .peg w x => .tup [.str "peg", .str (winS w), .str x]
  | .hang w x => .tup [.str "hang", .str (winS w), .str x]
  | .fetch w x => .tup [.str "fetch", .str (winS w), .str x]
  | .take w => .tup [.str "take", .str (winS w)]
  | .look w => .tup [.str "look", .str (winS w)]
  | .pull n => .tup [.str "pull", .int n]
  | .walk w n => .tup [.str "walk", .str (winS w), .int n]
def optS : Option Str → D
  | none => .non
  | some x => .str x
def Dd.d : Dd → D
  | .pl p => p.d
  | .wh w x p => .tup [.str "when", .str (winS w), optS x, p.d]
def isThing (x : Str) : Bool := decide (1 ≤ x.length ∧ x.length ≤ 8) && x.cps.toList.all fun c => decide (97 ≤ c ∧ c ≤ 122)
def Pl.ok : Pl → Prop
  | .peg _ x => isThing x = true
  | .hang _ x => isThing x = true
  | .fetch _ x => isThing x = true
  | .pull n => n ≠ 0 ∧ -40 ≤ n ∧ n ≤ 40
  | .walk _ n => n ≠ 0 ∧ -6 ≤ n ∧ n ≤ 6
  | _ => True
def Dd.ok : Dd → Prop
  | .pl p => p.ok
  | .wh _ x p => (∀ y, x = some y → isThing y = true) ∧ p.ok
theorem letters : (Str.ofString "abcdefghijklmnopqrstuvwxyz").cps.toList = List.range' 97 26 := by decide +kernel
theorem mem_letters {c : Nat} : c ∈ (Str.ofString "abcdefghijklmnopqrstuvwxyz").cps.toList ↔ 97 ≤ c ∧ c ≤ 122 := by
  rw [letters, List.mem_range'_1]
  omega
theorem thing_len {x : Str} (h : isThing x = true) : 1 ≤ x.length ∧ x.length ≤ 8 := by
  unfold isThing at h
  exact of_decide_eq_true (Bool.and_eq_true_iff.mp h).1
theorem is_thing_ok {x : Str} (h : isThing x = true) (st : Sto) : F_is_thing [.str x] st = .ok (.bl true) st := by
  have hl := thing_len h
  have ha := (Bool.and_eq_true_iff.mp (show (_ && _) = true from h)).2
  have hc : ∀ c ∈ x.cps.toList, 97 ≤ c ∧ c ≤ 122 := fun c hc => of_decide_eq_true (List.all_eq_true.mp ha c hc)
  have lc : ∀ (sg : Sg), sg.length = 2 → lcF (fun _ => True) (.one 1) tYesD b_is_thing_0 sg (chD x) st = .ok ((chD x).map fun _ => .bl true) st := fun sg h2 =>
    lc_map (fun _ => .bl true) trivial _ fun d hd => by
      unfold chD at hd
      obtain ⟨c, hc', rfl⟩ := List.mem_map.mp hd
      refine ⟨_, rfl, rfl, ?_⟩
      have h1 : ∀ d, (sg.set 1 d)[1]? = some d := fun d => by simp [h2]
      have := mem_letters.mpr (hc c hc')
      rw [at_b_is_thing_0]
      have this' : c ∈ (Str.ofString "abcdefghijklmnopqrstuvwxyz").cps := by simpa using this
      simp [h1, dInS, this']
  have bl : blsOf ((chD x).map fun _ => D.bl true) = some ((chD x).map fun _ => true) := by
    rw [← blsOf_map, List.map_map]
    rfl
  have al : ((chD x).map fun _ => true).all id = true := by simp
  have h1 : x.length ≤ 16777216 := by omega
  have h2 : (1 : Int) ≤ (x.length : Int) := by omega
  have h3 : (x.length : Int) ≤ 8 := by omega
  have h4 : (chD x).length ≤ 16777216 := by
    have : (chD x).length = x.length := by simp [chD]; rfl
    omega
  simp -implicitDefEqProofs [F_is_thing, g_is_thing, fChn, h1, h2, h3, h4, lcR, lc, bAll, bl]
theorem is_window_ok (w : Bool) (st : Sto) : F_is_window [.str (winS w)] st = .ok (.bl true) st := by
  cases w <;> rfl
end Law
/-! plans of deeds -/
namespace Law
open PySem Sh
theorem whole_int (i : Int) (st : Sto) : F_is_whole [.int i] st = .ok (.bl true) st := rfl
theorem is_length_ok {n m : Int} (h : n ≠ 0) (h1 : -m ≤ n) (h2 : n ≤ m) (st : Sto) : F_is_length [.int n, .int m] st = .ok (.bl true) st := by
  simp -implicitDefEqProofs [F_is_length, g_is_length, whole_int, fChn, h, h1, h2]
theorem is_plain_ok {p : Pl} (h : p.ok) (st : Sto) : F_is_plain_deed [p.d] st = .ok (.bl true) st := by
  cases p with
  | peg w x =>
    have h1 := fun st => is_window_ok w st
    have h2 := fun st => is_thing_ok (x := x) h st
    simp -implicitDefEqProofs [F_is_plain_deed, g_is_plain_deed, Pl.d, h1, h2, dEq_py, dInL_tup]
  | hang w x =>
    have h1 := fun st => is_window_ok w st
    have h2 := fun st => is_thing_ok (x := x) h st
    simp -implicitDefEqProofs [F_is_plain_deed, g_is_plain_deed, Pl.d, h1, h2, dEq_py, dInL_tup]
  | fetch w x =>
    have h1 := fun st => is_window_ok w st
    have h2 := fun st => is_thing_ok (x := x) h st
    simp -implicitDefEqProofs [F_is_plain_deed, g_is_plain_deed, Pl.d, h1, h2, dEq_py, dInL_tup]
  | take w => cases w <;> rfl
  | look w => cases w <;> rfl
  | pull n =>
    have h3 := fun st => is_length_ok (n := n) (m := 40) h.1 (by have := h.2; omega) (by have := h.2; omega) st
    simp -implicitDefEqProofs [F_is_plain_deed, g_is_plain_deed, Pl.d, h3, dEq_py]
  | walk w n =>
    have h1 := fun st => is_window_ok w st
    have h3 := fun st => is_length_ok (n := n) (m := 6) h.1 (by have := h.2; omega) (by have := h.2; omega) st
    simp -implicitDefEqProofs [F_is_plain_deed, g_is_plain_deed, Pl.d, h1, h3, dEq_py, dInL_tup]
end Law
namespace Law
open PySem Sh
theorem py_optS (x : Option Str) : py (optS x) = true := by cases x <;> rfl
theorem dep_optS (x : Option Str) : dep (optS x) = 0 := by cases x <;> rfl
theorem py_pl (p : Pl) : py p.d = true := by cases p <;> rfl
theorem dep_pl (p : Pl) : dep p.d = 1 := by cases p <;> rfl
theorem py_dd (d : Dd) : py d.d = true := by
  cases d with
  | pl p => exact py_pl p
  | wh w x p => simp [Dd.d, py_optS, py_pl]
theorem dep_dd (d : Dd) : dep d.d ≤ 2 := by
  cases d with
  | pl p => show dep p.d ≤ 2; rw [dep_pl]; decide
  | wh w x p => simp [Dd.d, dep_optS, dep_pl]
theorem py_dds (ds : List Dd) : pys (ds.map Dd.d) = true := pys_mem.mpr fun x hx => by
  obtain ⟨d, _, rfl⟩ := List.mem_map.mp hx
  exact py_dd d
theorem dep_dds (ds : List Dd) : deps (ds.map Dd.d) ≤ 2 := deps_le.mpr fun x hx => by
  obtain ⟨d, _, rfl⟩ := List.mem_map.mp hx
  exact dep_dd d
theorem pu_dds (ds : List Dd) : pus (ds.map Dd.d) = true := by
  have : pu (.tup (ds.map Dd.d)) = true := pu_of_py (by simpa using py_dds ds)
  simpa using this
theorem plain_word (p : Pl) : ∃ (w : String) (r : List D), p.d = .tup (.str (Str.ofString w) :: r) ∧ w ≠ "when" ∧ r.length ≤ 2 := by
  cases p with
  | peg w x => exact ⟨"peg", _, rfl, by decide, by simp⟩
  | hang w x => exact ⟨"hang", _, rfl, by decide, by simp⟩
  | fetch w x => exact ⟨"fetch", _, rfl, by decide, by simp⟩
  | take w => exact ⟨"take", _, rfl, by decide, by simp⟩
  | look w => exact ⟨"look", _, rfl, by decide, by simp⟩
  | pull w => exact ⟨"pull", _, rfl, by decide, by simp⟩
  | walk w n => exact ⟨"walk", _, rfl, by decide, by simp⟩
theorem is_deed_ok {d : Dd} (h : d.ok) (st : Sto) : F_is_deed [d.d] st = .ok (.bl true) st := by
  cases d with
  | pl p =>
    have h0 := fun st => is_plain_ok (p := p) h st
    obtain ⟨w, r, e, hw, hr⟩ := plain_word p
    have hl : ((r.length : Int) + 1) ≠ 4 := by omega
    simp only [Dd.d] at *
    rw [e] at h0 ⊢
    simp -implicitDefEqProofs [F_is_deed, g_is_deed, h0, hl]
  | wh w x p =>
    have h0 := fun st => is_plain_ok (p := p) h.2 st
    have h1 := fun st => is_window_ok w st
    obtain ⟨w', r, e, hw, hr⟩ := plain_word p
    cases x with
    | none => simp -implicitDefEqProofs [F_is_deed, g_is_deed, Dd.d, optS, h0, h1]
    | some y =>
      have h2 := fun st => is_thing_ok (x := y) (h.1 y rfl) st
      simp -implicitDefEqProofs [F_is_deed, g_is_deed, Dd.d, optS, h0, h1, h2]
/-- the first item that is refused -/
def badIx (g : D → Bool) : Nat → List D → Option Nat
  | _, [] => none
  | i, x :: l => if 12 ≤ i ∨ g x = false then some i else badIx g (i + 1) l
theorem init_loop {g : D → Bool} {st : Sto} {a b : D} : ∀ (l : List D) (i : Nat) (y2 y3 : Option D), (∀ x ∈ l, F_is_deed [x] st = .ok (.bl (g x)) st) → ∃ z2 z3, forF (fun _ => True) (.many [2, 3]) b_Plan_init_0 (enumF i l) [some a, some b, y2, y3] st =
    match badIx g i l with
    | none => .nx [some a, some b, z2, z3] st
    | some j => .exc 19 (some (.int j)) [some a, some b, z2, z3] st
  | [], i, y2, y3, _ => ⟨y2, y3, by rw [show enumF i [] = [] from rfl, for_nil trivial]; rfl⟩
  | x :: l, i, y2, y3, h => by
    obtain ⟨z2, z3, ih⟩ := init_loop (a := a) (b := b) l (i + 1) (some (.int i)) (some x) fun y hy => h y (List.mem_cons_of_mem _ hy)
    have hx := h x List.mem_cons_self
    show ∃ z2 z3, forF (fun _ => True) (.many [2, 3]) b_Plan_init_0 (.tup [.int (i : Nat), x] :: enumF (i + 1) l) _ _ = _
    rw [for_cons trivial (sg1 := [some a, some b, some (.int i), some x]) rfl, at_b_Plan_init_0]
    unfold badIx
    by_cases h1 : 12 ≤ i
    · have h1' : (12 : Int) ≤ (i : Int) := by omega
      refine ⟨some (.int i), some x, ?_⟩
      simp -implicitDefEqProofs [h1, h1']
    · have h1' : ¬ (12 : Int) ≤ (i : Int) := by omega
      cases hg : g x with
      | false =>
        rw [hg] at hx
        refine ⟨some (.int i), some x, ?_⟩
        simp -implicitDefEqProofs [h1, h1', hx]
      | true =>
        rw [hg] at hx
        refine ⟨z2, z3, ?_⟩
        simp -implicitDefEqProofs [h1, h1', hx, ih]
theorem plan_mk {g : D → Bool} {l : List D} (st : Sto) (hg : ∀ x ∈ l, ∀ st, F_is_deed [x] st = .ok (.bl (g x)) st) (hpu : pus l = true) : mkF 3 F_Plan_init 2 [] [.tup l] st = match badIx g 0 l with
    | none => .ok (.ins 3 [.tup l]) st
    | some j => .exc 19 (some (.int j)) st := by
  obtain ⟨z2, z3, e⟩ := init_loop (g := g) (st := st ++ [.ins 3 []]) (a := .loc st.length) (b := .tup l) l 0 none none fun x hx => hg x hx _
  cases hb : badIx g 0 l with
  | none =>
    rw [hb] at e
    simp -implicitDefEqProofs [mkF, mkG, F_Plan_init, g_Plan_init, e, hpu]
  | some j =>
    rw [hb] at e
    simp -implicitDefEqProofs [mkF, mkG, F_Plan_init, g_Plan_init, e]
theorem bad_none {ds : List Dd} : ∀ i, i + ds.length ≤ 12 → badIx (fun _ => true) i (ds.map Dd.d) = none := by
  induction ds with
  | nil => intro i _; rfl
  | cons d ds ih =>
    intro i h
    simp at h
    unfold badIx
    simp only [List.map_cons]
    rw [if_neg (by simp; omega)]
    exact ih _ (by omega)
theorem bad_long {l : List D} : ∀ i, i ≤ 12 → 12 < i + l.length → badIx (fun _ => true) i l = some 12 := by
  induction l with
  | nil => intro i h1 h2; simp at h2; omega
  | cons d ds ih =>
    intro i h1 h2
    simp at h2
    unfold badIx
    by_cases h3 : i = 12
    · subst h3; simp
    · rw [if_neg (by simp; omega)]
      exact ih _ (by omega) (by omega)
abbrev planD (ds : List Dd) : D := .ins 3 [.tup (ds.map Dd.d)]
def Oks (ds : List Dd) : Prop := ∀ d ∈ ds, d.ok
theorem plan_new {ds : List Dd} (hok : Oks ds) (hl : ds.length ≤ 12) (st : Sto) : mkF 3 F_Plan_init 2 [] [.tup (ds.map Dd.d)] st = .ok (planD ds) st := by
  rw [plan_mk (g := fun _ => true) st (fun x hx st => by
    obtain ⟨d, hd, rfl⟩ := List.mem_map.mp hx
    exact is_deed_ok (hok d hd) st) (pu_dds ds), bad_none 0 (by omega)]
theorem plan_long {ds : List Dd} (hok : Oks ds) (hl : 12 < ds.length) (st : Sto) : mkF 3 F_Plan_init 2 [] [.tup (ds.map Dd.d)] st = .exc 19 (some (.int 12)) st := by
  rw [plan_mk (g := fun _ => true) st (fun x hx st => by
    obtain ⟨d, hd, rfl⟩ := List.mem_map.mp hx
    exact is_deed_ok (hok d hd) st) (pu_dds ds), bad_long 0 (by omega) (by simpa using hl)]
  rfl
end Law
namespace Law
open PySem Sh
theorem plan_deeds (ds : List Dd) (st : Sto) : F_Plan_deeds [planD ds] st = .ok (.tup (ds.map Dd.d)) st := rfl
end Law
namespace Law
open PySem Sh
theorem Oks.append {a b : List Dd} (h : Oks a) (k : Oks b) : Oks (a ++ b) := fun d hd => (List.mem_append.mp hd).elim (h d) (k d)
theorem Oks.take {a : List Dd} (h : Oks a) (n : Nat) : Oks (a.take n) := fun d hd => h d (List.mem_of_mem_take hd)
theorem Oks.drop {a : List Dd} (h : Oks a) (n : Nat) : Oks (a.drop n) := fun d hd => h d (List.mem_of_mem_drop hd)
end Law
namespace Law
open PySem Sh
theorem plan_add {a b : List Dd} (ha : Oks a) (hb : Oks b) (h : a.length + b.length ≤ 12) (st : Sto) : F_Plan_add [planD a, planD b] st = .ok (planD (a ++ b)) st := by
  have e := fun st => plan_new (ds := a ++ b) (ha.append hb) (by simpa using h) st
  have hl : a.length + b.length ≤ 16777216 := by omega
  simp only [List.map_append] at e
  simp -implicitDefEqProofs [F_Plan_add, g_Plan_add, planD, hl, e]
end Law
namespace Law
open PySem Sh
theorem cut_take {l : List D} (i : Nat) : cutD l none (some (i : Int)) = l.take i := by
  unfold cutD
  rw [HT.sIx_nat]
  simp [HT.sIx]
theorem cut_drop {l : List D} (i : Nat) : cutD l (some (i : Int)) none = l.drop i := by
  unfold cutD
  rw [HT.sIx_nat]
  simp only [HT.sIx]
  rw [List.take_of_length_le (by simp)]
  by_cases h : i ≤ l.length
  · rw [Nat.min_eq_left h]
  · rw [Nat.min_eq_right (by omega)]; simp; omega
end Law
namespace Law
open PySem Sh
def ixOf (n : Nat) : D → Bool
  | .int i => decide (0 ≤ i ∧ i < n)
  | _ => false
theorem plan_has {ds : List Dd} {x : D} (hx : plainD x = true) (st : Sto) : F_Plan_has [planD ds, x] st = .ok (.bl (ixOf ds.length x)) st := by
  have w := fun st => whole_ok (st := st) hx
  cases x with
  | int i =>
    by_cases h0 : 0 ≤ i
    · by_cases h1 : i < ds.length
      · simp -implicitDefEqProofs [F_Plan_has, g_Plan_has, w, isWh, fChn, h0, h1, ixOf]
      · simp -implicitDefEqProofs [F_Plan_has, g_Plan_has, w, isWh, fChn, h0, h1, ixOf]
    · simp -implicitDefEqProofs [F_Plan_has, g_Plan_has, w, isWh, fChn, h0, ixOf]
  | _ => first | (simp [plainD] at hx; done) | (simp -implicitDefEqProofs [F_Plan_has, g_Plan_has, w, isWh, ixOf])
end Law
namespace Law
open PySem Sh
/-- the items that without takes, one by one: an error's item, or the indexes -/
def scanW (n : Nat) : List Int → List D → List Int ⊕ D
  | seen, [] => .inl seen
  | seen, x :: l => match x with
    | .int i => if 0 ≤ i ∧ i < n ∧ i ∉ seen then scanW n (seen ++ [i]) l else .inr x
    | x => .inr x
def keepIx (seen : List Int) : Nat → List Dd → List Dd
  | _, [] => []
  | i, d :: l => if ((i : Nat) : Int) ∈ seen then keepIx seen (i + 1) l else d :: keepIx seen (i + 1) l
theorem keepIx_len (seen : List Int) : ∀ (l : List Dd) (i : Nat), (keepIx seen i l).length ≤ l.length
  | [], _ => Nat.le_refl _
  | d :: l, i => by
    have := keepIx_len seen l (i + 1)
    unfold keepIx
    split <;> simp <;> omega
theorem keepIx_sub (seen : List Int) : ∀ (l : List Dd) (i : Nat), ∀ d ∈ keepIx seen i l, d ∈ l
  | [], _, d, h => h
  | x :: l, i, d, h => by
    unfold keepIx at h
    split at h
    · exact List.mem_cons_of_mem _ (keepIx_sub seen l _ d h)
    · rcases List.mem_cons.mp h with rfl | h
      · exact List.mem_cons_self
      · exact List.mem_cons_of_mem _ (keepIx_sub seen l _ d h)
theorem any_int (i : Int) : ∀ seen : List Int, (seen.map D.int).any (fun y => dEqv y (.int i)) = decide (i ∈ seen)
  | [] => rfl
  | j :: l => by
    rw [List.map_cons, List.any_cons, any_int i l]
    show ((j == i) || _) = _
    by_cases h : j = i
    · subst h; simp
    · have h' : ¬ i = j := fun e => h e.symm
      simp [h, h']
theorem flat_ints (seen : List Int) : (seen.map D.int).all dFlat = true := by simp
theorem without_loop {ds : List Dd} {b : D} {st : Sto} : ∀ (items : List D) (seen : List Int) (y3 y4 : Option D), (∀ x ∈ items, plainD x = true ∧ pu x = true) → seen.length + items.length ≤ 1000 → ∃ z3 z4 seen', forF (fun _ => True) (.one 3) b_Plan_without_0 items [some (planD ds), some b, some (.loc st.length), y3, y4] (st ++ [.lst (seen.map .int)]) =
    match scanW ds.length seen items with
    | .inl s => .nx [some (planD ds), some b, some (.loc st.length), z3, z4] (st ++ [.lst (s.map .int)])
    | .inr x => .exc 19 (some x) [some (planD ds), some b, some (.loc st.length), z3, z4] (st ++ [.lst seen'])
  | [], seen, y3, y4, _, _ => ⟨y3, y4, [], by rw [for_nil trivial]; rfl⟩
  | x :: l, seen, y3, y4, h, hl => by
    obtain ⟨hx, hu⟩ := h x List.mem_cons_self
    have h1 := fun st => plan_has (ds := ds) hx st
    rw [for_cons trivial (sg1 := [some (planD ds), some b, some (.loc st.length), some x, y4]) rfl, at_b_Plan_without_0]
    have hbad : ixOf ds.length x = false → ∃ z3 z4 seen', (fun (r : Flw) => r = match (.inr x : List Int ⊕ D) with
        | .inl s => .nx [some (planD ds), some b, some (.loc st.length), z3, z4] (st ++ [.lst (s.map .int)])
        | .inr x => .exc 19 (some x) [some (planD ds), some b, some (.loc st.length), z3, z4] (st ++ [.lst seen'])) ((sSeq (sIf (tOr' (tNot' (tTru (fMeth 3 F_Plan_has 2 [] (fVar 0) (aCons (fVar 3) aNil)))) (tOfE (fBin (dInL false) (fVar 3) (fVar 2)))) (rXc 19 (aCons (fVar 3) aNil)) sNil) (sDrop (fBM "list" mApp (fVar 2) (aCons (fVar 3) aNil))) [some (planD ds), some b, some (.loc st.length), some x, y4] (st ++ [.lst (seen.map .int)])).loop (forF (fun _ => True) (.one 3) b_Plan_without_0 l)) := fun e => by
      rw [e] at h1
      refine ⟨some x, y4, seen.map .int, ?_⟩
      simp only [planD] at h1 ⊢
      simp -implicitDefEqProofs [h1, hu]
    cases x with
    | int i =>
      unfold scanW
      dsimp only
      by_cases hi : 0 ≤ i ∧ i < ds.length
      · have e1 : ixOf ds.length (.int i) = true := by simp [ixOf]; exact hi
        rw [e1] at h1
        have fi : dInL false (.int i) (.loc st.length) (st ++ [.lst (seen.map .int)]) = .ok (.bl (decide (i ∈ seen))) (st ++ [.lst (seen.map .int)]) := by
          rw [dInL_of (l := seen.map .int) (by simp) rfl (flat_ints seen), any_int]; rfl
        simp only [planD] at h1 ⊢
        by_cases hs : i ∈ seen
        · refine ⟨some (.int i), y4, seen.map .int, ?_⟩
          simp -implicitDefEqProofs [h1, fi, hs]
        · obtain ⟨z3, z4, s', ih⟩ := without_loop (ds := ds) (b := b) (st := st) l (seen ++ [i]) (some (.int i)) y4 (fun y hy => h y (List.mem_cons_of_mem _ hy)) (by simp at hl ⊢; omega)
          simp only [planD, List.map_append, List.map_cons, List.map_nil] at ih
          refine ⟨z3, z4, s', ?_⟩
          have hlen : seen.length < 16777216 := by omega
          have sets : ∀ (o o' : SO), (st ++ [o]).set st.length o' = st ++ [o'] := fun o o' => by simp
          simp -implicitDefEqProofs [h1, fi, hs, hi, mApp, hlen, sets, ih]
      · have hn : ¬ (0 ≤ i ∧ i < (ds.length : Int) ∧ i ∉ seen) := fun z => hi ⟨z.1, z.2.1⟩
        rw [if_neg hn]
        exact hbad (by simp only [ixOf, decide_eq_false_iff_not]; exact hi)
    | non => exact hbad rfl
    | bl b => exact hbad rfl
    | str b => exact hbad rfl
    | tup b => exact hbad rfl
    | lst b => exact hbad rfl
    | edict => exact hbad rfl
    | ins _ _ => cases hx
    | loc _ => cases hx
    | scr _ => cases hx
theorem keep_lc {seen : List Int} {n : Nat} {st : Sto} {sg : Sg} (hg : sg.length = 5) (h2 : sg[2]? = some (some (.loc n))) (hs : st[n]? = some (.lst (seen.map .int))) : ∀ (ds : List Dd) (i : Nat), lcF (fun _ => True) (.many [3, 4]) b_Plan_without_2 b_Plan_without_1 sg (enumF i (ds.map Dd.d)) st = .ok ((keepIx seen i ds).map Dd.d) st
  | [], i => by simp [enumF, lcF, keepIx]
  | d :: ds, i => by
    have ih := keep_lc hg h2 hs ds (i + 1)
    have fi : dInL true (.int (i : Nat)) (.loc n) st = .ok (.bl !(decide (((i : Nat) : Int) ∈ seen))) st := by
      rw [dInL_of (l := seen.map .int) (by simp [hs]) rfl (flat_ints seen), any_int]; rfl
    have g3 : ∀ a b : Option D, ((sg.set 3 a).set 4 b)[3]? = some a := fun a b => by rw [List.getElem?_set_ne (by decide)]; simp [hg]
    have g4 : ∀ a b : Option D, ((sg.set 3 a).set 4 b)[4]? = some b := fun a b => by simp [hg]
    have g2 : ∀ a b : Option D, ((sg.set 3 a).set 4 b)[2]? = some (some (.loc n)) := fun a b => by rw [List.getElem?_set_ne (by decide), List.getElem?_set_ne (by decide)]; exact h2
    simp only [List.map_cons, enumF]
    unfold lcF keepIx
    by_cases hm : ((i : Nat) : Int) ∈ seen
    · simp -implicitDefEqProofs [at_b_Plan_without_2, g3, g2, fi, hm, ih]
    · simp -implicitDefEqProofs [at_b_Plan_without_2, at_b_Plan_without_1, g3, g4, g2, fi, hm, ih]
end Law
/-! without, in a store that may grow (no cut) -/
namespace Law
open PySem Sh
theorem plan_without_g {ds : List Dd} {items : List D} {s : List Int} {st : Sto} (hok : Oks ds) (hl : ds.length ≤ 12) (hi : ∀ x ∈ items, plainD x = true ∧ pu x = true) (hn : items.length ≤ 1000) (hs : scanW ds.length [] items = .inl s) :
    F_Plan_without [planD ds, .tup items] st = .ok (planD (keepIx s 0 ds)) (st ++ [.lst (s.map .int)]) := by
  obtain ⟨z3, z4, s', e⟩ := without_loop (ds := ds) (b := .tup items) (st := st) items [] none none hi (by simpa using hn)
  simp only [List.map_nil] at e
  rw [hs] at e
  have o : Oks (keepIx s 0 ds) := fun d hd => hok d (keepIx_sub s ds 0 d hd)
  have e2 := fun st => plan_new o (Nat.le_trans (keepIx_len s ds 0) hl) st
  have e3 : lcF (fun _ => True) (.many [3, 4]) b_Plan_without_2 b_Plan_without_1 [some (planD ds), some (.tup items), some (.loc st.length), none, none] (enumF 0 (ds.map Dd.d)) (st ++ [.lst (s.map .int)]) = .ok ((keepIx s 0 ds).map Dd.d) (st ++ [.lst (s.map .int)]) :=
    keep_lc (n := st.length) rfl rfl (by simp) ds 0
  have hl2 : (enumF 0 (ds.map Dd.d)).length ≤ 16777216 := by rw [enumF_len]; simp; omega
  simp only [planD] at e e2 e3 ⊢
  simp -implicitDefEqProofs [F_Plan_without, g_Plan_without, e, lcR, hl2, e3, e2]
end Law
/-! draws -/
namespace Law
open PySem Sh
/-- behind at most some dips into the pot at n -/
structure Drw (n : Nat) (t : Int) (st st' : Sto) : Prop where
  pot : Pot st' n t
  len : st'.length = st.length
  oth : ∀ m, m ≠ n → st'[m]? = st[m]?
theorem Drw.refl {n : Nat} {t : Int} {st : Sto} (h : Pot st n t) : Drw n t st st := ⟨h, rfl, fun _ _ => rfl⟩
theorem Drw.trans {n : Nat} {t t' : Int} {a b c : Sto} (h : Drw n t a b) (k : Drw n t' b c) : Drw n t' a c := ⟨k.pot, k.len.trans h.len, fun m hm => (k.oth m hm).trans (h.oth m hm)⟩
theorem Drw.le {n : Nat} {t t' : Int} {a b : Sto} (h : Drw n t a b) (e : t ≤ t') : Drw n t' a b := ⟨h.pot.le e, h.len, h.oth⟩
theorem Drw.at_ {n m : Nat} {t : Int} {a b : Sto} {o : SO} (h : Drw n t a b) (hm : m ≠ n) (e : a[m]? = some o) : b[m]? = some o := by rw [h.oth m hm]; exact e
theorem Drw.pu {n : Nat} {t : Int} {a b : Sto} (h : Drw n t a b) (e : a.all soPu = true) : b.all soPu = true := by
  rw [List.all_eq_true] at e ⊢
  intro o ho
  obtain ⟨m, hm, rfl⟩ := List.mem_iff_getElem.mp ho
  by_cases q : m = n
  · subst q
    obtain ⟨p, c, u, h1, _⟩ := h.pot
    have : b[m] = .lst [.int p, .int c, .int u] := by
      have := List.getElem?_eq_getElem hm
      rw [this] at h1
      exact Option.some.inj h1
    rw [this]
    rfl
  · have := h.oth m q
    rw [List.getElem?_eq_getElem hm, List.getElem?_eq_getElem (by rw [← h.len]; exact hm)] at this
    rw [Option.some.inj this]
    exact e _ (List.getElem_mem _)
theorem dip_dr {st : Sto} {n : Nat} {t m : Int} (h : Pot st n t) (ht : t < 2 ^ 59) (hm : 1 ≤ m) (hm2 : m < 2 ^ 200) :
    ∃ (r : Int) (st' : Sto), F_law_dip [.loc n, .int m] st = .ok (.int r) st' ∧ 0 ≤ r ∧ r < m ∧ Drw n (t + 1) st st' := by
  obtain ⟨r, o, h1, h2, h3, h4⟩ := dip_ok h (by omega) hm hm2
  exact ⟨r, _, h1, h2, h3, h4, by simp, fun k hk => by rw [List.getElem?_set_ne (Ne.symm hk)]⟩
/-- a list made of draws -/
theorem lc_draw {n : Nat} {c : Int} {P : D → Prop} {tg : Tg} {f : EF} {sg : Sg} {ck : Sto → Prop} (hck : ∀ st, ck st) (B : Int) (hc : 0 ≤ c) :
    ∀ (l : List D) (st : Sto) (t : Int), Pot st n t → t + c * l.length ≤ B →
    (∀ d ∈ l, ∀ st t, Pot st n t → t + c ≤ B → ∃ sg1, setT tg d sg = some sg1 ∧ ∃ y st', f sg1 st = .ok y st' ∧ P y ∧ Drw n (t + c) st st') →
    ∃ ys st', lcF ck tg tYesD f sg l st = .ok ys st' ∧ ys.length = l.length ∧ (∀ y ∈ ys, P y) ∧ Drw n (t + c * l.length) st st'
  | [], st, t, h, _, _ => ⟨[], st, by simp [lcF, hck], rfl, by simp, by simpa using Drw.refl h⟩
  | d :: l, st, t, h, hB, hf => by
    have e1 : c * ((d :: l).length : Int) = c + c * (l.length : Int) := by
      rw [List.length_cons, Int.natCast_succ, Int.mul_add, Int.mul_one, Int.add_comm]
    have e2 : 0 ≤ c * (l.length : Int) := Int.mul_nonneg hc (by omega)
    rw [e1] at hB
    obtain ⟨sg1, s1, y, st1, f1, p1, d1⟩ := hf d List.mem_cons_self st t h (by omega)
    obtain ⟨ys, st2, f2, l2, p2, d2⟩ := lc_draw (ck := ck) (tg := tg) (f := f) (sg := sg) (P := P) hck B hc l st1 (t + c) d1.pot (by omega) fun x hx => hf x (List.mem_cons_of_mem _ hx)
    refine ⟨y :: ys, st2, ?_, by simp [l2], ?_, ?_⟩
    · unfold lcF
      rw [if_pos (hck _), s1]
      simp [f1, f2]
    · intro z hz
      rcases List.mem_cons.mp hz with rfl | hz
      · exact p1
      · exact p2 z hz
    · rw [e1]
      exact (d1.trans d2).le (by omega)
theorem rng_len (lo : Int) (k : Nat) : (rngD lo k).length = k := by simp [rngD]
/-- an item of a list at a drawn place -/
theorem get_in {l : List D} {r : Int} (h0 : 0 ≤ r) (h : r < l.length) : ∃ d ∈ l, l[r.toNat]? = some d := by
  have hl : r.toNat < l.length := by omega
  exact ⟨l[r.toNat], List.getElem_mem _, List.getElem?_eq_getElem hl⟩
theorem all_ex {P : Dd → Prop} : ∀ {ys : List D}, (∀ y ∈ ys, ∃ d : Dd, y = d.d ∧ P d) → ∃ ds : List Dd, ys = ds.map Dd.d ∧ ∀ d ∈ ds, P d
  | [], _ => ⟨[], rfl, by simp⟩
  | y :: ys, h => by
    obtain ⟨d, e, p⟩ := h y List.mem_cons_self
    obtain ⟨ds, e2, p2⟩ := all_ex fun z hz => h z (List.mem_cons_of_mem _ hz)
    refine ⟨d :: ds, by rw [e, e2]; rfl, fun z hz => ?_⟩
    rcases List.mem_cons.mp hz with rfl | hz
    · exact p
    · exact p2 z hz
end Law
namespace Law
open PySem Sh
theorem len_tl (x : Str) : (TL.tl x).length = x.length := Array.length_toList
theorem join_chars : ∀ cs : List Nat, TL.tl (Txt.join (Str.ofString "") (cs.map fun c => (⟨#[c]⟩ : Str))) = cs := by
  have key : ∀ cs : List Nat, TL.joinL [] (cs.map fun c => [c]) = cs := by
    intro cs
    induction cs with
    | nil => rfl
    | cons a l ih =>
      cases l with
      | nil => rfl
      | cons b r =>
        show [a] ++ ([] ++ TL.joinL [] ((b :: r).map fun c => [c])) = _
        rw [ih]; rfl
  intro cs
  rw [TL.join_eq, TL.tl_join, List.map_map]
  exact key cs
theorem chars_ex : ∀ {ys : List D}, (∀ y ∈ ys, ∃ c : Nat, y = .str ⟨#[c]⟩ ∧ 97 ≤ c ∧ c ≤ 122) → ∃ cs : List Nat, ys = (cs.map fun c => (⟨#[c]⟩ : Str)).map D.str ∧ ∀ c ∈ cs, 97 ≤ c ∧ c ≤ 122
  | [], _ => ⟨[], rfl, by simp⟩
  | y :: ys, h => by
    obtain ⟨d, e, p⟩ := h y List.mem_cons_self
    obtain ⟨ds, e2, p2⟩ := chars_ex fun z hz => h z (List.mem_cons_of_mem _ hz)
    refine ⟨d :: ds, by rw [e, e2]; rfl, fun z hz => ?_⟩
    rcases List.mem_cons.mp hz with rfl | hz
    · exact p
    · exact p2 z hz
def words : List Str := ["sock", "a", "b", "no", "yes", "when", "near", "far", "peg", "zzzzzzzz", "ab", "ba", "d", "of", "but", "nothing"]
theorem words_ok : ∀ w ∈ words, isThing w = true := by decide +kernel
theorem word_at {r : Int} (h0 : 0 ≤ r) (h : r < 16) : ∃ w, (words.map D.str)[r.toNat]? = some (.str w) ∧ isThing w = true := by
  have hl : r.toNat < words.length := by show r.toNat < 16; omega
  exact ⟨words[r.toNat], by rw [List.getElem?_map, List.getElem?_eq_getElem hl]; rfl, words_ok _ (List.getElem_mem _)⟩
theorem letter_at {r : Int} (h0 : 0 ≤ r) (h : r < 26) : ∃ c, L2.atI (Str.ofString "abcdefghijklmnopqrstuvwxyz").cps.toList r = some c ∧ 97 ≤ c ∧ c ≤ 122 := by
  obtain ⟨k, rfl⟩ := Int.eq_ofNat_of_zero_le h0
  have hk : k < 26 := by omega
  refine ⟨97 + k, ?_, by omega, by omega⟩
  have key : ∀ k : Nat, k < 26 → L2.atI (Str.ofString "abcdefghijklmnopqrstuvwxyz").cps.toList (k : Int) = some (97 + k) := by decide +kernel
  exact key k hk
theorem thing_dr {st : Sto} {n : Nat} {t : Int} (h : Pot st n t) (ht : t < 2 ^ 50) : ∃ x st', F_law_thing [.loc n] st = .ok (.str x) st' ∧ isThing x = true ∧ Drw n (t + 12) st st' := by
  obtain ⟨r1, s1, e1, l1, u1, d1⟩ := dip_dr h (m := 3) (by omega) (by decide) (by decide)
  by_cases hr : 0 < r1
  · obtain ⟨r2, s2, e2, l2, u2, d2⟩ := dip_dr d1.pot (m := 16) (by omega) (by decide) (by decide)
    obtain ⟨w, hw, ok⟩ := word_at l2 u2
    simp only [words, List.map_cons, List.map_nil] at hw
    refine ⟨w, s2, ?_, ok, (d1.trans d2).le (by omega)⟩
    simp -implicitDefEqProofs [F_law_thing, g_law_thing, e1, hr, e2, l2, hw]
  · obtain ⟨r2, s2, e2, l2, u2, d2⟩ := dip_dr d1.pot (m := 8) (by omega) (by decide) (by decide)
    obtain ⟨ys, s3, e3, l3, p3, d3⟩ := lc_draw (n := n) (c := 1) (P := fun y => ∃ c : Nat, y = .str ⟨#[c]⟩ ∧ 97 ≤ c ∧ c ≤ 122) (tg := .one 3) (f := b_law_thing_0) (sg := [some (.loc n), none, some (.int (1 + r2)), none]) (ck := fun _ => True) (fun _ => trivial) (2 ^ 55) (by decide)
      (rngD 0 (1 + r2).toNat) s2 _ d2.pot (by rw [rng_len]; omega) fun d hd st t hp hB => by
        obtain ⟨r, s, e, l, u, dd⟩ := dip_dr hp (m := 26) (by omega) (by decide) (by decide)
        obtain ⟨c, hc, c1, c2⟩ := letter_at l u
        refine ⟨_, rfl, .str ⟨#[c]⟩, s, ?_, ⟨c, rfl, c1, c2⟩, dd⟩
        rw [at_b_law_thing_0]
        have hl : (Str.ofString "abcdefghijklmnopqrstuvwxyz").length ≤ 16777216 := by decide +kernel
        simp -implicitDefEqProofs [e, hl, hc]
    obtain ⟨cs, rfl, hcs⟩ := chars_ex p3
    rw [rng_len] at l3 d3
    have hcl : cs.length = (1 + r2).toNat := by simpa using l3
    refine ⟨Txt.join (Str.ofString "") (cs.map fun c => (⟨#[c]⟩ : Str)), s3, ?_, ?_, ((d1.trans d2).trans d3).le (by omega)⟩
    · have hb : -4611686018427387904 ≤ 1 + r2 ∧ 1 + r2 < 4611686018427387904 := by omega
      have hlen : (rngD 0 (1 + r2).toNat).length ≤ 16777216 := by rw [rng_len]; omega
      have sum1 : ∀ cs : List Nat, (((cs.map fun c => (⟨#[c]⟩ : Str))).map (·.length)).sum = cs.length := by
        intro cs
        induction cs with
        | nil => rfl
        | cons a l ih =>
          simp only [List.map_cons, List.sum_cons, ih, List.length_cons]
          show 1 + l.length = _
          omega
      have hj : mJoin (.str (Str.ofString "")) [.lst ((cs.map fun c => (⟨#[c]⟩ : Str)).map D.str)] s3 = .ok (.str (Txt.join (Str.ofString "") (cs.map fun c => (⟨#[c]⟩ : Str)))) s3 := by
        have h0 : (Str.ofString "").length = 0 := rfl
        have h1 : cs.length ≤ 16777216 := by omega
        unfold mJoin
        simp only [ev_itemsOf, Option.bind_some, strsOf_map, sum1, h0, Nat.mul_zero, Nat.add_zero]
        rw [if_pos h1]
      simp -implicitDefEqProofs [-List.map_map, F_law_thing, g_law_thing, e1, hr, e2, hb, lcR, hlen, e3, hj]
    · have hj := join_chars cs
      unfold isThing
      have hl2 : (Txt.join (Str.ofString "") (cs.map fun c => (⟨#[c]⟩ : Str))).length = cs.length := by rw [← len_tl, hj]
      rw [hl2]
      show (_ && (TL.tl _).all _) = true
      rw [hj]
      simp only [Bool.and_eq_true, decide_eq_true_eq, List.all_eq_true]
      exact ⟨by omega, hcs⟩
theorem win_at {r : Int} (h0 : 0 ≤ r) (h : r < 2) : ∃ w : Bool, ([D.str "near", D.str "far"] : List D)[r.toNat]? = some (.str (winS w)) := by
  have : r = 0 ∨ r = 1 := by omega
  rcases this with rfl | rfl
  · exact ⟨false, rfl⟩
  · exact ⟨true, rfl⟩
theorem plain_dr {st : Sto} {n : Nat} {t : Int} (h : Pot st n t) (ht : t < 2 ^ 45) : ∃ p : Pl, ∃ st', F_law_plain [.loc n] st = .ok p.d st' ∧ p.ok ∧ Drw n (t + 16) st st' := by
  obtain ⟨r1, s1, e1, l1, u1, d1⟩ := dip_dr h (m := 7) (by omega) (by decide) (by decide)
  obtain ⟨r2, s2, e2, l2, u2, d2⟩ := dip_dr d1.pot (m := 2) (by omega) (by decide) (by decide)
  obtain ⟨r3, s3, e3, l3, u3, d3⟩ := dip_dr d2.pot (m := 80) (by omega) (by decide) (by decide)
  obtain ⟨w, hw⟩ := win_at l2 u2
  have dd := (d1.trans d2).trans d3
  by_cases h3 : r1 < 3
  · obtain ⟨x, s4, e4, ok, d4⟩ := thing_dr dd.pot (by omega)
    have : r1 = 0 ∨ r1 = 1 ∨ r1 = 2 := by omega
    rcases this with rfl | rfl | rfl
    · exact ⟨.peg w x, s4, by simp -implicitDefEqProofs [F_law_plain, g_law_plain, e1, e2, e3, hw, l2, e4, Pl.d], ok, (dd.trans d4).le (by omega)⟩
    · exact ⟨.hang w x, s4, by simp -implicitDefEqProofs [F_law_plain, g_law_plain, e1, e2, e3, hw, l2, e4, Pl.d], ok, (dd.trans d4).le (by omega)⟩
    · exact ⟨.fetch w x, s4, by simp -implicitDefEqProofs [F_law_plain, g_law_plain, e1, e2, e3, hw, l2, e4, Pl.d], ok, (dd.trans d4).le (by omega)⟩
  · by_cases h4 : r1 = 3
    · subst h4
      by_cases hn : 40 ≤ r3
      · exact ⟨.pull (r3 - 40 + 1), s3, by simp -implicitDefEqProofs [F_law_plain, g_law_plain, e1, e2, e3, hw, l2, Pl.d, hn], ⟨by omega, by omega, by omega⟩, dd.le (by omega)⟩
      · exact ⟨.pull (r3 - 40 + 0), s3, by simp -implicitDefEqProofs [F_law_plain, g_law_plain, e1, e2, e3, hw, l2, Pl.d, hn], ⟨by omega, by omega, by omega⟩, dd.le (by omega)⟩
    · by_cases h5 : r1 = 4
      · subst h5
        obtain ⟨r4, s4, e4, l4, u4, d4⟩ := dip_dr dd.pot (m := 12) (by omega) (by decide) (by decide)
        by_cases hn : 6 ≤ r4
        · exact ⟨.walk w (r4 - 6 + 1), s4, by simp -implicitDefEqProofs [F_law_plain, g_law_plain, e1, e2, e3, hw, l2, e4, Pl.d, hn], ⟨by omega, by omega, by omega⟩, (dd.trans d4).le (by omega)⟩
        · exact ⟨.walk w (r4 - 6 + 0), s4, by simp -implicitDefEqProofs [F_law_plain, g_law_plain, e1, e2, e3, hw, l2, e4, Pl.d, hn], ⟨by omega, by omega, by omega⟩, (dd.trans d4).le (by omega)⟩
      · have : r1 = 5 ∨ r1 = 6 := by omega
        rcases this with rfl | rfl
        · exact ⟨.take w, s3, by simp -implicitDefEqProofs [F_law_plain, g_law_plain, e1, e2, e3, hw, l2, Pl.d], trivial, dd.le (by omega)⟩
        · exact ⟨.look w, s3, by simp -implicitDefEqProofs [F_law_plain, g_law_plain, e1, e2, e3, hw, l2, Pl.d], trivial, dd.le (by omega)⟩
theorem deed_dr {st : Sto} {n : Nat} {t : Int} (h : Pot st n t) (ht : t < 2 ^ 44) : ∃ p : Dd, ∃ st', F_law_deed [.loc n] st = .ok p.d st' ∧ p.ok ∧ Drw n (t + 40) st st' := by
  obtain ⟨r1, s1, e1, l1, u1, d1⟩ := dip_dr h (m := 4) (by omega) (by decide) (by decide)
  obtain ⟨r2, s2, e2, l2, u2, d2⟩ := dip_dr d1.pot (m := 2) (by omega) (by decide) (by decide)
  obtain ⟨w, hw⟩ := win_at l2 u2
  have dd := d1.trans d2
  by_cases h3 : 0 < r1
  · obtain ⟨p, s3, e3, ok, d3⟩ := plain_dr dd.pot (by omega)
    exact ⟨.pl p, s3, by simp -implicitDefEqProofs [F_law_deed, g_law_deed, e1, e2, e3, hw, l2, Dd.d, h3], ok, (dd.trans d3).le (by omega)⟩
  · obtain ⟨r3, s3, e3, l3, u3, d3⟩ := dip_dr dd.pot (m := 4) (by omega) (by decide) (by decide)
    by_cases h4 : r3 = 0
    · obtain ⟨p, s4, e4, ok, d4⟩ := plain_dr d3.pot (by omega)
      exact ⟨.wh w none p, s4, by simp -implicitDefEqProofs [F_law_deed, g_law_deed, e1, e2, e3, e4, hw, l2, Dd.d, h3, h4, optS], ⟨by simp, ok⟩, ((dd.trans d3).trans d4).le (by omega)⟩
    · obtain ⟨x, s4, e4, okx, d4⟩ := thing_dr d3.pot (by omega)
      obtain ⟨p, s5, e5, ok, d5⟩ := plain_dr d4.pot (by omega)
      exact ⟨.wh w (some x) p, s5, by simp -implicitDefEqProofs [F_law_deed, g_law_deed, e1, e2, e3, e4, e5, hw, l2, Dd.d, h3, h4, optS], ⟨by simpa using okx, ok⟩, (((dd.trans d3).trans d4).trans d5).le (by omega)⟩
end Law
namespace Law
open PySem Sh
def tx (i : Int) : Str := Str.ofString (Int.repr i)
def Pl.ps : Pl → List Str
  | .peg w x => ["peg", winS w, x]
  | .hang w x => ["hang", winS w, x]
  | .fetch w x => ["fetch", winS w, x]
  | .take w => ["take", winS w]
  | .look w => ["look", winS w]
  | .pull n => ["pull", tx n]
  | .walk w n => ["walk", winS w, tx n]
def Pl.s (p : Pl) : Str := Txt.join " " p.ps
def optT : Option Str → Str
  | none => "."
  | some x => x
def Dd.s : Dd → Str
  | .pl p => p.s
  | .wh w x p => "when " ++ winS w ++ " " ++ optT x ++ ": " ++ p.s
def isPl : Dd → Prop
  | .pl _ => True
  | _ => False
theorem len_app (x y : Str) : (x ++ y).length = x.length + y.length := by
  show (x.cps ++ y.cps).size = _
  rw [Array.size_append]
  rfl
theorem e_app (x : Str) : Str.empty ++ x = x := by
  show (⟨#[] ++ x.cps⟩ : Str) = x
  rw [Array.empty_append]
theorem tx_log {n : Int} (h : n.natAbs < 2 ^ 64) : n.natAbs.log2 < 64 := by
  by_cases e : n.natAbs = 0
  · rw [e]; decide
  · exact (Nat.log2_lt e).mpr h
theorem tx_len {n : Int} (h : n.natAbs < 2 ^ 64) : (tx n).length ≤ 100 := by
  have e := PySem.int_text_length_le (k := 64) (by decide) (tx_log h)
  have e2 : (tx n).length = (toString n).length := PySem.ofString_length _
  omega
theorem join_len (s : Str) (l : List Str) : (Txt.join s l).length ≤ (l.map (·.length)).sum + l.length * s.length := by
  have e : Txt.join s l = Str.join s l := PySem.StrLaws.glued_eq_join s l
  rw [e]
  exact PySem.StrLaws.join_length_le s l
theorem win_len (w : Bool) : (winS w).length ≤ 4 := by cases w <;> decide
theorem Pl.s_sum {p : Pl} (h : p.ok) : (p.ps.map (·.length)).sum + p.ps.length * ((" " : Str)).length ≤ 200 := by
  have k0 : ((" " : Str)).length = 1 := rfl
  have k1 : (("peg" : Str)).length = 3 := rfl
  have k2 : (("hang" : Str)).length = 4 := rfl
  have k3 : (("fetch" : Str)).length = 5 := rfl
  have k4 : (("take" : Str)).length = 4 := rfl
  have k5 : (("look" : Str)).length = 4 := rfl
  have k6 : (("pull" : Str)).length = 4 := rfl
  have k7 : (("walk" : Str)).length = 4 := rfl
  cases p with
  | peg w x => have := (thing_len h).2; have := win_len w; simp [Pl.ps, k0, k1, k2, k3, k4, k5, k6, k7]; omega
  | hang w x => have := (thing_len h).2; have := win_len w; simp [Pl.ps, k0, k1, k2, k3, k4, k5, k6, k7]; omega
  | fetch w x => have := (thing_len h).2; have := win_len w; simp [Pl.ps, k0, k1, k2, k3, k4, k5, k6, k7]; omega
  | take w => have := win_len w; simp [Pl.ps, k0, k1, k2, k3, k4, k5, k6, k7]; omega
  | look w => have := win_len w; simp [Pl.ps, k0, k1, k2, k3, k4, k5, k6, k7]; omega
  | pull n => have := tx_len (n := n) (by have := h; simp only [Pl.ok] at this; omega); have lg : n.natAbs.log2 < 1920 := Nat.lt_trans (tx_log (by have := h; simp only [Pl.ok] at this; omega)) (by decide); simp [Pl.ps, k0, k1, k2, k3, k4, k5, k6, k7]; omega
  | walk w n => have := win_len w; have := tx_len (n := n) (by have := h; simp only [Pl.ok] at this; omega); have lg : n.natAbs.log2 < 1920 := Nat.lt_trans (tx_log (by have := h; simp only [Pl.ok] at this; omega)) (by decide); simp [Pl.ps, k0, k1, k2, k3, k4, k5, k6, k7]; omega
theorem Pl.s_len {p : Pl} (h : p.ok) : p.s.length ≤ 200 := Nat.le_trans (join_len " " p.ps) (Pl.s_sum h)
theorem plain_text {p : Pl} (h : p.ok) (n : Nat) (st : Sto) : recF 2 g_deed_text (n + 1) [p.d] st = .ok (.str p.s) st := by
  rw [recF_succ]
  have k0 : ((" " : Str)).length = 1 := rfl
  have k1 : (("peg" : Str)).length = 3 := rfl
  have k2 : (("hang" : Str)).length = 4 := rfl
  have k3 : (("fetch" : Str)).length = 5 := rfl
  have k4 : (("take" : Str)).length = 4 := rfl
  have k5 : (("look" : Str)).length = 4 := rfl
  have k6 : (("pull" : Str)).length = 4 := rfl
  have k7 : (("walk" : Str)).length = 4 := rfl
  cases p with
  | peg w x => have := (thing_len h).2; have := win_len w; simp -implicitDefEqProofs [g_deed_text, Pl.d, Pl.s, Pl.ps, tx, b_deed_text_0, lcR, lcF, mJoin, bStr, strsOf]; rw [if_pos (by (try simp only [tx] at *); omega)]; rfl
  | hang w x => have := (thing_len h).2; have := win_len w; simp -implicitDefEqProofs [g_deed_text, Pl.d, Pl.s, Pl.ps, tx, b_deed_text_0, lcR, lcF, mJoin, bStr, strsOf]; rw [if_pos (by (try simp only [tx] at *); omega)]; rfl
  | fetch w x => have := (thing_len h).2; have := win_len w; simp -implicitDefEqProofs [g_deed_text, Pl.d, Pl.s, Pl.ps, tx, b_deed_text_0, lcR, lcF, mJoin, bStr, strsOf]; rw [if_pos (by (try simp only [tx] at *); omega)]; rfl
  | take w => have := win_len w; simp -implicitDefEqProofs [g_deed_text, Pl.d, Pl.s, Pl.ps, tx, b_deed_text_0, lcR, lcF, mJoin, bStr, strsOf]; rw [if_pos (by (try simp only [tx] at *); omega)]; rfl
  | look w => have := win_len w; simp -implicitDefEqProofs [g_deed_text, Pl.d, Pl.s, Pl.ps, tx, b_deed_text_0, lcR, lcF, mJoin, bStr, strsOf]; rw [if_pos (by (try simp only [tx] at *); omega)]; rfl
  | pull n => have := tx_len (n := n) (by have := h; simp only [Pl.ok] at this; omega); have lg : n.natAbs.log2 < 1920 := Nat.lt_trans (tx_log (by have := h; simp only [Pl.ok] at this; omega)) (by decide); simp -implicitDefEqProofs [g_deed_text, Pl.d, Pl.s, Pl.ps, tx, b_deed_text_0, lcR, lcF, mJoin, bStr, lg, strsOf]; rw [if_pos (by (try simp only [tx] at *); omega)]; rfl
  | walk w n => have := win_len w; have := tx_len (n := n) (by have := h; simp only [Pl.ok] at this; omega); have lg : n.natAbs.log2 < 1920 := Nat.lt_trans (tx_log (by have := h; simp only [Pl.ok] at this; omega)) (by decide); simp -implicitDefEqProofs [g_deed_text, Pl.d, Pl.s, Pl.ps, tx, b_deed_text_0, lcR, lcF, mJoin, bStr, lg, strsOf]; rw [if_pos (by (try simp only [tx] at *); omega)]; rfl
theorem plain_line {p : Pl} (h : p.ok) (n : Nat) (st : Sto) : recF 2 g_law_line (n + 1) [p.d] st = .ok (.str p.s) st := by
  rw [recF_succ]
  have k0 : ((" " : Str)).length = 1 := rfl
  have k1 : (("peg" : Str)).length = 3 := rfl
  have k2 : (("hang" : Str)).length = 4 := rfl
  have k3 : (("fetch" : Str)).length = 5 := rfl
  have k4 : (("take" : Str)).length = 4 := rfl
  have k5 : (("look" : Str)).length = 4 := rfl
  have k6 : (("pull" : Str)).length = 4 := rfl
  have k7 : (("walk" : Str)).length = 4 := rfl
  cases p with
  | peg w x => have := (thing_len h).2; have := win_len w; simp -implicitDefEqProofs [g_law_line, Pl.d, Pl.s, Pl.ps, tx, b_law_line_0, lcR, lcF, mJoin, bStr, strsOf]; rw [if_pos (by (try simp only [tx] at *); omega)]; rfl
  | hang w x => have := (thing_len h).2; have := win_len w; simp -implicitDefEqProofs [g_law_line, Pl.d, Pl.s, Pl.ps, tx, b_law_line_0, lcR, lcF, mJoin, bStr, strsOf]; rw [if_pos (by (try simp only [tx] at *); omega)]; rfl
  | fetch w x => have := (thing_len h).2; have := win_len w; simp -implicitDefEqProofs [g_law_line, Pl.d, Pl.s, Pl.ps, tx, b_law_line_0, lcR, lcF, mJoin, bStr, strsOf]; rw [if_pos (by (try simp only [tx] at *); omega)]; rfl
  | take w => have := win_len w; simp -implicitDefEqProofs [g_law_line, Pl.d, Pl.s, Pl.ps, tx, b_law_line_0, lcR, lcF, mJoin, bStr, strsOf]; rw [if_pos (by (try simp only [tx] at *); omega)]; rfl
  | look w => have := win_len w; simp -implicitDefEqProofs [g_law_line, Pl.d, Pl.s, Pl.ps, tx, b_law_line_0, lcR, lcF, mJoin, bStr, strsOf]; rw [if_pos (by (try simp only [tx] at *); omega)]; rfl
  | pull n => have := tx_len (n := n) (by have := h; simp only [Pl.ok] at this; omega); have lg : n.natAbs.log2 < 1920 := Nat.lt_trans (tx_log (by have := h; simp only [Pl.ok] at this; omega)) (by decide); simp -implicitDefEqProofs [g_law_line, Pl.d, Pl.s, Pl.ps, tx, b_law_line_0, lcR, lcF, mJoin, bStr, lg, strsOf]; rw [if_pos (by (try simp only [tx] at *); omega)]; rfl
  | walk w n => have := win_len w; have := tx_len (n := n) (by have := h; simp only [Pl.ok] at this; omega); have lg : n.natAbs.log2 < 1920 := Nat.lt_trans (tx_log (by have := h; simp only [Pl.ok] at this; omega)) (by decide); simp -implicitDefEqProofs [g_law_line, Pl.d, Pl.s, Pl.ps, tx, b_law_line_0, lcR, lcF, mJoin, bStr, lg, strsOf]; rw [if_pos (by (try simp only [tx] at *); omega)]; rfl
theorem deed_text {d : Dd} (h : d.ok) (st : Sto) : F_deed_text [d.d] st = .ok (.str d.s) st := by
  cases d with
  | pl p => exact plain_text h 7 st
  | wh w x p =>
    have e := fun st => plain_text h.2 6 st
    have l := Pl.s_len h.2
    have lw := win_len w
    have k1 : (("when " : Str)).length = 5 := rfl
    have k2 : ((" " : Str)).length = 1 := rfl
    have k3 : ((": " : Str)).length = 2 := rfl
    have k4 : (("." : Str)).length = 1 := rfl
    show recF 2 g_deed_text (6 + 1 + 1) _ _ = _
    rw [recF_succ]
    generalize recF 2 g_deed_text (6 + 1) = Fr at e ⊢
    cases x with
    | none =>
      have q : ∀ n : Nat, n ≤ 300 → n ≤ 16777216 := fun n h => by omega
      simp -implicitDefEqProofs [g_deed_text, Dd.d, Dd.s, optS, optT, fJs, dFmt, e_app, e, len_app]
      simp -implicitDefEqProofs (disch := omega) [k1, k2, k3, k4, len_app, if_pos]
    | some x =>
      have lx := (thing_len (h.1 x rfl)).2
      simp -implicitDefEqProofs [g_deed_text, Dd.d, Dd.s, optS, optT, fJs, dFmt, e_app, e, len_app]
      simp -implicitDefEqProofs (disch := omega) [k1, k2, k3, k4, len_app, if_pos]
theorem deed_line {d : Dd} (h : d.ok) (st : Sto) : F_law_line [d.d] st = .ok (.str d.s) st := by
  cases d with
  | pl p => exact plain_line h 7 st
  | wh w x p =>
    have e := fun st => plain_line h.2 6 st
    have l := Pl.s_len h.2
    have lw := win_len w
    have k1 : (("when " : Str)).length = 5 := rfl
    have k2 : ((" " : Str)).length = 1 := rfl
    have k3 : ((": " : Str)).length = 2 := rfl
    have k4 : (("." : Str)).length = 1 := rfl
    show recF 2 g_law_line (6 + 1 + 1) _ _ = _
    rw [recF_succ]
    generalize recF 2 g_law_line (6 + 1) = Fr at e ⊢
    cases x with
    | none =>
      have q : ∀ n : Nat, n ≤ 300 → n ≤ 16777216 := fun n h => by omega
      simp -implicitDefEqProofs [g_law_line, Dd.d, Dd.s, optS, optT, e, len_app]
      simp -implicitDefEqProofs (disch := omega) [k1, k2, k3, k4, len_app, if_pos]
    | some x =>
      have lx := (thing_len (h.1 x rfl)).2
      simp -implicitDefEqProofs [g_law_line, Dd.d, Dd.s, optS, optT, e, len_app]
      simp -implicitDefEqProofs (disch := omega) [k1, k2, k3, k4, len_app, if_pos]
end Law
namespace Law
open PySem Sh
theorem Dd.s_len {d : Dd} (h : d.ok) : d.s.length ≤ 300 := by
  cases d with
  | pl p => exact Nat.le_trans (Pl.s_len h) (by decide)
  | wh w x p =>
    have l := Pl.s_len h.2
    have lw := win_len w
    have k1 : (("when " : Str)).length = 5 := rfl
    have k2 : ((" " : Str)).length = 1 := rfl
    have k3 : ((": " : Str)).length = 2 := rfl
    have k4 : (("." : Str)).length = 1 := rfl
    cases x with
    | none => simp only [Dd.s, optT, len_app]; omega
    | some x => have lx := (thing_len (h.1 x rfl)).2; simp only [Dd.s, optT, len_app]; omega
def planS (ds : List Dd) : Str := Txt.join "\n" (ds.map Dd.s)
theorem sum_len {n : Nat} : ∀ {l : List Str}, (∀ x ∈ l, x.length ≤ n) → (l.map (·.length)).sum ≤ l.length * n
  | [], _ => by simp
  | x :: l, h => by
    have := sum_len (l := l) fun y hy => h y (List.mem_cons_of_mem _ hy)
    have h1 := h x (List.mem_cons_self ..)
    rw [List.map_cons, List.sum_cons, List.length_cons, Nat.add_mul]
    omega
theorem planS_fit {ds : List Dd} (hok : Oks ds) (hl : ds.length ≤ 100) : ((ds.map Dd.s).map (·.length)).sum + (ds.map Dd.s).length * (("\n" : Str)).length ≤ 16777216 := by
  have h := sum_len (n := 300) (l := ds.map Dd.s) fun x hx => by
    obtain ⟨d, hd, rfl⟩ := List.mem_map.mp hx
    exact Dd.s_len (hok d hd)
  have e : (("\n" : Str)).length = 1 := rfl
  rw [List.length_map] at *
  rw [e]
  omega
theorem planS_len {ds : List Dd} (hok : Oks ds) (hl : ds.length ≤ 100) : (planS ds).length ≤ 40000 := by
  have h := sum_len (n := 300) (l := ds.map Dd.s) fun x hx => by
    obtain ⟨d, hd, rfl⟩ := List.mem_map.mp hx
    exact Dd.s_len (hok d hd)
  have e : (("\n" : Str)).length = 1 := rfl
  have j := join_len "\n" (ds.map Dd.s)
  rw [List.length_map] at *
  rw [e] at j
  unfold planS
  omega
theorem strs_dds (ds : List Dd) : strsOf (ds.map fun d => D.str d.s) = some (ds.map Dd.s) := by
  have := strsOf_map (ds.map Dd.s)
  rwa [List.map_map] at this
theorem dds_lc {g : EF} {ds : List Dd} (h : ∀ d ∈ ds, ∀ (a : Option D) st, g [a, some d.d] st = .ok (.str d.s) st) (a : Option D) (b : Option D) (st : Sto) : lcF (fun _ => True) (.one 1) tYesD g [a, b] (ds.map Dd.d) st = .ok (ds.map fun d => D.str d.s) st := by
  induction ds with
  | nil => simp [lcF]
  | cons d ds ih =>
    have e := h d (List.mem_cons_self ..) a
    have i := ih fun x hx => h x (List.mem_cons_of_mem _ hx)
    rw [List.map_cons, List.map_cons]
    unfold lcF
    simp -implicitDefEqProofs [e, i]
theorem plan_text {ds : List Dd} (hok : Oks ds) (hl : ds.length ≤ 100) (st : Sto) : F_plan_text [planD ds] st = .ok (.str (planS ds)) st := by
  have f := planS_fit hok hl
  have lc := dds_lc (g := b_plan_text_0) (ds := ds) fun d hd a st => by
    have e := fun st => deed_text (hok d hd) st
    rw [at_b_plan_text_0]; simp -implicitDefEqProofs [e]
  have s := strs_dds ds
  have n1 : ds.length ≤ 16777216 := by omega
  have f2 : ((ds.map fun d => D.str d.s).length) = ds.length := by simp
  have pd := fun st => plan_deeds ds st
  simp only [planD] at pd ⊢
  simp -implicitDefEqProofs [-List.map_map, F_plan_text, g_plan_text, pd, n1, lcR, lc, mJoin, s]
  simp only [List.map_map, List.length_map] at f ⊢
  rw [if_pos f]; rfl
theorem law_text {ds : List Dd} (hok : Oks ds) (hl : ds.length ≤ 100) (st : Sto) : F_law_text [.tup (ds.map Dd.d)] st = .ok (.str (planS ds)) st := by
  have f := planS_fit hok hl
  have lc := dds_lc (g := b_law_text_0) (ds := ds) fun d hd a st => by
    have e := fun st => deed_line (hok d hd) st
    rw [at_b_law_text_0]; simp -implicitDefEqProofs [e]
  have s := strs_dds ds
  have n1 : ds.length ≤ 16777216 := by omega
  simp -implicitDefEqProofs [-List.map_map, F_law_text, g_law_text, n1, lcR, lc, mJoin, s]
  simp only [List.map_map, List.length_map] at f ⊢
  rw [if_pos f]; rfl
end Law
/-! the texts of plans, read -/
namespace Law
open PySem Sh
theorem pos_facts : ∀ k : Fin 41, Txt.isdigit (tx (k.val : Int)) = true ∧ Txt.startswith (tx (k.val : Int)) "-" = false ∧ (k.val ≠ 0 → Txt.startswith (tx (k.val : Int)) "0" = false) ∧ PySem.intText? (tx (k.val : Int)) = some (k.val : Int) ∧ (TL.tl (tx (k.val : Int))).all (fun c => decide (45 ≤ c ∧ c ≤ 57)) = true := by decide +kernel
theorem neg_facts : ∀ k : Fin 41, k.val ≠ 0 → Txt.startswith (tx (-(k.val : Int))) "-" = true ∧ L2.cutS (tx (-(k.val : Int))) (some 1) none = tx (k.val : Int) ∧ PySem.intText? (tx (-(k.val : Int))) = some (-(k.val : Int)) ∧ (TL.tl (tx (-(k.val : Int)))).all (fun c => decide (45 ≤ c ∧ c ≤ 57)) = true := by decide +kernel
theorem num_sign {n : Int} (h : -40 ≤ n ∧ n ≤ 40) : ∀ c ∈ TL.tl (tx n), 45 ≤ c ∧ c ≤ 57 := by
  intro c hc
  rcases Int.le_total 0 n with h0 | h0
  · obtain ⟨k, rfl⟩ := Int.eq_ofNat_of_zero_le h0
    have := (pos_facts ⟨k, by omega⟩).2.2.2.2
    exact of_decide_eq_true (List.all_eq_true.mp this c hc)
  · by_cases hz : n = 0
    · subst hz
      have := (pos_facts 0).2.2.2.2
      exact of_decide_eq_true (List.all_eq_true.mp this c hc)
    · obtain ⟨k, hk⟩ := Int.eq_ofNat_of_zero_le (a := -n) (by omega)
      have e : n = -(k : Int) := by omega
      subst e
      have := (neg_facts ⟨k, by omega⟩ (by simp; omega)).2.2.2
      exact of_decide_eq_true (List.all_eq_true.mp this c hc)
theorem num_read {n : Int} (hn : n ≠ 0) (h : -40 ≤ n ∧ n ≤ 40) (st : Sto) : F_read_number [.str (tx n)] st = .ok (.int n) st := by
  have l1 := tx_len (n := n) (by omega)
  have l2 : (tx n).length ≤ 640 := by omega
  have l3 : (tx n).length ≤ 16777216 := by omega
  rcases Int.le_total 0 n with h0 | h0
  · obtain ⟨k, rfl⟩ := Int.eq_ofNat_of_zero_le h0
    obtain ⟨a, b, c, d, _⟩ := pos_facts ⟨k, by omega⟩
    have c := c (by simp; omega)
    simp only at a b c d
    generalize tx (k : Int) = t at *
    simp -implicitDefEqProofs [F_read_number, g_read_number, mS2B, mDigit, bIntS, a, b, c, d, l2]
  · obtain ⟨k, hk⟩ := Int.eq_ofNat_of_zero_le (a := -n) (by omega)
    have e : n = -(k : Int) := by omega
    subst e
    obtain ⟨a, b, d, _⟩ := neg_facts ⟨k, by omega⟩ (by simp; omega)
    obtain ⟨a2, b2, c2, d2, _⟩ := pos_facts ⟨k, by omega⟩
    have c2 := c2 (by simp; omega)
    simp only at a b d a2 b2 c2 d2
    generalize tx (k : Int) = t at *
    generalize tx (-(k : Int)) = t' at *
    simp -implicitDefEqProofs [F_read_number, g_read_number, mS2B, mDigit, bIntS, a, b, d, a2, c2, l2, l3]
/-- no space, colon, end of line -/
def Clean (x : Str) : Prop := ∀ c ∈ TL.tl x, c ≠ 10 ∧ c ≠ 32 ∧ c ≠ 58
theorem clean_num {n : Int} (h : -40 ≤ n ∧ n ≤ 40) : Clean (tx n) := fun c hc => by
  have := num_sign h c hc
  omega
theorem clean_thing {x : Str} (h : isThing x = true) : Clean x := fun c hc => by
  have ha := (Bool.and_eq_true_iff.mp (show (_ && _) = true from h)).2
  have := of_decide_eq_true (List.all_eq_true.mp ha c hc)
  omega
theorem clean_win (w : Bool) : Clean (winS w) := by
  cases w <;> (unfold Clean winS; decide +kernel)
theorem clean_words : ∀ x ∈ ([("peg" : Str), "hang", "fetch", "take", "look", "pull", "walk", "when", "."] : List Str), Clean x := by
  unfold Clean; decide +kernel
theorem clean_lit {x : Str} (h : x ∈ ([("peg" : Str), "hang", "fetch", "take", "look", "pull", "walk", "when", "."] : List Str)) : Clean x := clean_words x h
theorem ps_clean {p : Pl} (h : p.ok) : ∀ q ∈ p.ps, Clean q := by
  intro q hq
  cases p with
  | peg w x =>
    simp only [Pl.ps, List.mem_cons, List.not_mem_nil, or_false] at hq
    rcases hq with rfl | rfl | rfl
    · exact clean_lit (by simp)
    · exact clean_win w
    · exact clean_thing h
  | hang w x =>
    simp only [Pl.ps, List.mem_cons, List.not_mem_nil, or_false] at hq
    rcases hq with rfl | rfl | rfl
    · exact clean_lit (by simp)
    · exact clean_win w
    · exact clean_thing h
  | fetch w x =>
    simp only [Pl.ps, List.mem_cons, List.not_mem_nil, or_false] at hq
    rcases hq with rfl | rfl | rfl
    · exact clean_lit (by simp)
    · exact clean_win w
    · exact clean_thing h
  | take w =>
    simp only [Pl.ps, List.mem_cons, List.not_mem_nil, or_false] at hq
    rcases hq with rfl | rfl
    · exact clean_lit (by simp)
    · exact clean_win w
  | look w =>
    simp only [Pl.ps, List.mem_cons, List.not_mem_nil, or_false] at hq
    rcases hq with rfl | rfl
    · exact clean_lit (by simp)
    · exact clean_win w
  | pull n =>
    simp only [Pl.ps, List.mem_cons, List.not_mem_nil, or_false] at hq
    have h' := h
    simp only [Pl.ok] at h'
    rcases hq with rfl | rfl
    · exact clean_lit (by simp)
    · exact clean_num h'.2
  | walk w n =>
    simp only [Pl.ps, List.mem_cons, List.not_mem_nil, or_false] at hq
    have h' := h
    simp only [Pl.ok] at h'
    rcases hq with rfl | rfl | rfl
    · exact clean_lit (by simp)
    · exact clean_win w
    · exact clean_num (by omega)
theorem join_mem {y : Str} {c : Nat} : ∀ {parts : List Str}, c ∈ TL.tl (Txt.join y parts) → c ∈ TL.tl y ∨ ∃ p ∈ parts, c ∈ TL.tl p := by
  intro parts h
  rw [TL.join_eq, TL.tl_join] at h
  induction parts with
  | nil => cases h
  | cons a l ih =>
    cases l with
    | nil => exact .inr ⟨a, by simp, h⟩
    | cons b l =>
      simp only [List.map_cons, TL.joinL, List.mem_append] at h
      rcases h with h | h | h
      · exact .inr ⟨a, by simp, h⟩
      · exact .inl h
      · rcases ih (by simpa using h) with h | ⟨p, hp, h⟩
        · exact .inl h
        · exact .inr ⟨p, List.mem_cons_of_mem _ hp, h⟩
theorem sp_tl : TL.tl (" " : Str) = [32] := by decide +kernel
theorem nl_tl : TL.tl ("\n" : Str) = [10] := by decide +kernel
theorem co_tl : TL.tl (": " : Str) = [58, 32] := by decide +kernel
theorem ps_signs {p : Pl} (h : p.ok) : ∀ c ∈ TL.tl p.s, c ≠ 10 ∧ c ≠ 58 := fun c hc => by
  rcases join_mem hc with hc | ⟨q, hq, hc⟩
  · rw [sp_tl] at hc
    simp at hc
    omega
  · have := ps_clean h q hq c hc
    exact ⟨this.1, this.2.2⟩
theorem ps_split {p : Pl} (h : p.ok) : Txt.split p.s " " = p.ps := by
  have k : ((" " : Str).cps.all (· < 256)) = true := by decide +kernel
  exact TL.split_join sp_tl k (by cases p <;> simp [Pl.ps]) fun q hq hc => (ps_clean h q hq 32 hc).2.1 rfl
theorem plain_read {p : Pl} (h : p.ok) (st : Sto) : F_read_plain [.str p.s] st = .ok p.d st := by
  have sp := ps_split h
  have l := Pl.s_len h
  have l2 : p.s.length + 2 ≤ 16777216 := by omega
  have l3 : p.s.length ≤ 16777214 := by omega
  have k0 : ((" " : Str)).length = 1 := rfl
  have c2 : ∀ a b : D, cutD [a, b] none (some (-1)) = [a] := fun _ _ => rfl
  have c3 : ∀ a b c : D, cutD [a, b, c] none (some (-1)) = [a, b] := fun _ _ _ => rfl
  generalize p.s = ss at *
  cases p with
  | pull n =>
    have h' := h
    simp only [Pl.ok] at h'
    have e := fun st => num_read h'.1 h'.2 st
    simp only [Pl.ps] at sp
    simp -implicitDefEqProofs [F_read_plain, g_read_plain, mSplit, sp, l2, l3, k0, dInL_tup, c2, e, Pl.d]
  | walk w n =>
    have h' := h
    simp only [Pl.ok] at h'
    have e := fun st => num_read h'.1 (by omega) st
    simp only [Pl.ps] at sp
    simp -implicitDefEqProofs [F_read_plain, g_read_plain, mSplit, sp, l2, l3, k0, dInL_tup, c3, e, Pl.d]
  | _ =>
    simp only [Pl.ps] at sp
    simp -implicitDefEqProofs [F_read_plain, g_read_plain, mSplit, sp, l2, l3, k0, dInL_tup, Pl.d]
end Law
namespace Law
open PySem Sh
theorem app_assoc (a b c : Str) : a ++ b ++ c = a ++ (b ++ c) := by
  show (⟨(a.cps ++ b.cps) ++ c.cps⟩ : Str) = ⟨a.cps ++ (b.cps ++ c.cps)⟩
  rw [Array.append_assoc]
theorem app_tl {c : Nat} {a b : Str} (h : c ∈ TL.tl (a ++ b)) : c ∈ TL.tl a ∨ c ∈ TL.tl b := by
  rw [TL.tl_append] at h
  exact List.mem_append.mp h
def whHead (w : Bool) (x : Option Str) : Str := "when " ++ winS w ++ " " ++ optT x
theorem head_join (w : Bool) (x : Option Str) : whHead w x = Txt.join " " ["when", winS w, optT x] := by
  rw [TL.join_eq]
  show _ = ("when" : Str) ++ (" " : Str) ++ (winS w ++ (" " : Str) ++ optT x)
  unfold whHead
  have e : ("when " : Str) = ("when" : Str) ++ (" " : Str) := by decide +kernel
  rw [e]
  simp only [app_assoc]
theorem opt_clean {x : Option Str} (h : ∀ y, x = some y → isThing y = true) : Clean (optT x) := by
  cases x with
  | none => exact clean_lit (by simp [optT])
  | some x => exact clean_thing (h x rfl)
theorem wh_parts {w : Bool} {x : Option Str} (h : ∀ y, x = some y → isThing y = true) : ∀ q ∈ [("when" : Str), winS w, optT x], Clean q := by
  intro q hq
  simp only [List.mem_cons, List.not_mem_nil, or_false] at hq
  rcases hq with rfl | rfl | rfl
  · exact clean_lit (by simp)
  · exact clean_win w
  · exact opt_clean h
theorem head_signs {w : Bool} {x : Option Str} (h : ∀ y, x = some y → isThing y = true) : ∀ c ∈ TL.tl (whHead w x), c ≠ 10 ∧ c ≠ 58 := fun c hc => by
  rw [head_join] at hc
  rcases join_mem hc with hc | ⟨q, hq, hc⟩
  · rw [sp_tl] at hc
    simp at hc
    omega
  · have := wh_parts h q hq c hc
    exact ⟨this.1, this.2.2⟩
theorem head_split {w : Bool} {x : Option Str} (h : ∀ y, x = some y → isThing y = true) : Txt.split (whHead w x) " " = [("when" : Str), winS w, optT x] := by
  have k : ((" " : Str).cps.all (· < 256)) = true := by decide +kernel
  rw [head_join]
  exact TL.split_join sp_tl k (by simp) fun q hq hc => (wh_parts h q hq 32 hc).2.1 rfl
theorem dd_signs {d : Dd} (h : d.ok) : ∀ c ∈ TL.tl d.s, c ≠ 10 := fun c hc => by
  cases d with
  | pl p => exact (ps_signs h c hc).1
  | wh w x p =>
    have hc : c ∈ TL.tl (whHead w x ++ (": " : Str) ++ p.s) := hc
    rcases app_tl hc with hc | hc
    · rcases app_tl hc with hc | hc
      · exact (head_signs h.1 c hc).1
      · rw [co_tl] at hc
        simp at hc
        omega
    · exact (ps_signs h.2 c hc).1
theorem opt_dot {x : Str} (h : isThing x = true) : (x == ("." : Str)) = false := by
  by_cases e : x = ("." : Str)
  · subst e
    exact absurd h (by decide +kernel)
  · exact beq_eq_false_iff_ne.mpr e
theorem deed_read {d : Dd} (h : d.ok) (st : Sto) : F_read_deed [.str d.s] st = .ok d.d st := by
  have k0 : ((": " : Str)).length = 2 := rfl
  have k1 : ((" " : Str)).length = 1 := rfl
  have ke : (Str.empty : Str).length = 0 := rfl
  cases d with
  | pl p =>
    have e := fun st => plain_read h st
    have l := Pl.s_len h
    have l3 : p.s.length ≤ 16777216 := by omega
    have pt : Txt.partition p.s (": " : Str) = (p.s, Str.empty, Str.empty) := TL.partition_none co_tl fun hc => (ps_signs h 58 hc).2 rfl
    simp only [Dd.s, Dd.d]
    generalize p.s = ss at *
    generalize p.d = dd at *
    simp -implicitDefEqProofs [F_read_deed, g_read_deed, mPart, pt, l3, k0, ke, e]
  | wh w x p =>
    have e := fun st => plain_read h.2 st
    have l := Dd.s_len h
    have es : (Dd.wh w x p).s = whHead w x ++ (": " : Str) ++ p.s := rfl
    have pt : Txt.partition (whHead w x ++ (": " : Str) ++ p.s) (": " : Str) = (whHead w x, (": " : Str), p.s) := TL.partition_app co_tl fun hc => (head_signs h.1 58 hc).2 rfl
    have sp := head_split (w := w) h.1
    rw [es] at l ⊢
    have lh : (whHead w x).length ≤ 300 := by rw [len_app, len_app] at l; omega
    have l3 : (whHead w x ++ (": " : Str) ++ p.s).length ≤ 16777216 := by omega
    have l4 : (whHead w x).length ≤ 16777214 := by omega
    generalize whHead w x ++ (": " : Str) ++ p.s = full at *
    generalize whHead w x = hd at *
    simp only [Dd.d]
    generalize p.s = ss at *
    generalize p.d = dd at *
    cases x with
    | none =>
      simp only [optT] at sp
      simp -implicitDefEqProofs [F_read_deed, g_read_deed, mPart, mSplit, pt, sp, l3, l4, k0, k1, ke, e, optS, lstOf]
    | some x =>
      simp only [optT] at sp
      have nd := opt_dot (h.1 x rfl)
      simp -implicitDefEqProofs [F_read_deed, g_read_deed, mPart, mSplit, pt, sp, l3, l4, k0, k1, ke, e, nd, optS, lstOf]
theorem dd_ne {d : Dd} (h : d.ok) : d.s ≠ ("" : Str) := by
  intro e
  cases d with
  | pl p =>
    have sp := ps_split h
    have e' : p.s = ("" : Str) := e
    rw [e'] at sp
    have : Txt.split ("" : Str) (" " : Str) = [("" : Str)] := by decide +kernel
    rw [this] at sp
    cases p <;> simp [Pl.ps] at sp
  | wh w x p =>
    have := congrArg Str.length e
    have es : (Dd.wh w x p).s = whHead w x ++ (": " : Str) ++ p.s := rfl
    rw [es, len_app, len_app] at this
    have k0 : ((": " : Str)).length = 2 := rfl
    have k1 : (("" : Str)).length = 0 := rfl
    omega
theorem page_split {ds : List Dd} (hok : Oks ds) (hne : ds ≠ []) : Txt.split (planS ds) "\n" = ds.map Dd.s := by
  have k : (("\n" : Str).cps.all (· < 256)) = true := by decide +kernel
  refine TL.split_join nl_tl k (by simpa using hne) fun q hq hc => ?_
  obtain ⟨d, hd, rfl⟩ := List.mem_map.mp hq
  exact dd_signs (hok d hd) 10 hc rfl
theorem page_ne {ds : List Dd} (hok : Oks ds) (hne : ds ≠ []) : planS ds ≠ ("" : Str) := by
  intro e
  have sp := page_split hok hne
  rw [e] at sp
  have : Txt.split ("" : Str) ("\n" : Str) = [("" : Str)] := by decide +kernel
  rw [this] at sp
  cases ds with
  | nil => exact hne rfl
  | cons d ds =>
    simp only [List.map_cons, List.cons.injEq] at sp
    exact dd_ne (hok d List.mem_cons_self) sp.1.symm
end Law
/-! desks: a snapshot, where a desk lies, what an act changes -/
namespace Law
open PySem Sh
/-- the plan and what is kept under names -/
structure Sn where
  row : List Dd
  kp : List (Str × List Dd)
def Sn.ok (s : Sn) : Prop := Oks s.row ∧ s.row.length ≤ 12 ∧ ∀ e ∈ s.kp, Oks e.2 ∧ e.2.length ≤ 12
def shL (kp : List (Str × List Dd)) : List (L2.Key × D) := kp.map fun e => (.inr e.1, planD e.2)
structure Dk where
  now : Sn
  sh : Nat
  pa : Nat
  ps : List (Sn × Nat)
def pD (p : Sn × Nat) : D := .tup [planD p.1.row, .loc p.2]
structure Dk.At (k : Dk) (d : Nat) (st : Sto) : Prop where
  ins : st[d]? = some (.ins 7 [planD k.now.row, .loc k.sh, .loc k.pa])
  shl : st[k.sh]? = some (.dict (shL k.now.kp))
  pst : st[k.pa]? = some (.lst (k.ps.map pD))
  qs : ∀ p ∈ k.ps, st[p.2]? = some (.dict (shL p.1.kp))
  nd : (k.sh :: k.ps.map Prod.snd).Nodup
  ok : k.now.ok
  oks : ∀ p ∈ k.ps, p.1.ok
/-- only the desk's own things change -/
structure Dk.Chg (k : Dk) (d : Nat) (st st' : Sto) : Prop where
  len : st.length ≤ st'.length
  oth : ∀ x, x < st.length → x ≠ d → x ≠ k.pa → x ≠ k.sh → st'[x]? = st[x]?
theorem lt_of {st : Sto} {x : Nat} {o : SO} (h : st[x]? = some o) : x < st.length := (List.getElem?_eq_some_iff.mp h).1
theorem Dk.At.ne1 {k : Dk} {d : Nat} {st : Sto} (h : k.At d st) : k.pa ≠ d := fun e => by
  have a := h.pst
  rw [e, h.ins] at a
  cases a
theorem Dk.At.ne2 {k : Dk} {d : Nat} {st : Sto} (h : k.At d st) : k.sh ≠ d := fun e => by
  have a := h.shl
  rw [e, h.ins] at a
  cases a
theorem Dk.At.ne3 {k : Dk} {d : Nat} {st : Sto} (h : k.At d st) : k.sh ≠ k.pa := fun e => by
  have a := h.shl
  rw [e, h.pst] at a
  cases a
theorem Dk.At.neq {k : Dk} {d : Nat} {st : Sto} (h : k.At d st) : ∀ p ∈ k.ps, p.2 ≠ d ∧ p.2 ≠ k.pa ∧ p.2 ≠ k.sh := fun p hp => by
  have a := h.qs p hp
  refine ⟨fun e => ?_, fun e => ?_, fun e => ?_⟩
  · rw [e, h.ins] at a; cases a
  · rw [e, h.pst] at a; cases a
  · exact (List.nodup_cons.mp h.nd).1 (e ▸ List.mem_map_of_mem hp)
/-- the store grew or changed elsewhere -/
theorem Dk.At.keep {k : Dk} {d : Nat} {st st' : Sto} (h : k.At d st) (e : ∀ x, x < st.length → (st[x]? = some (.ins 7 [planD k.now.row, .loc k.sh, .loc k.pa]) ∨ (∃ l, st[x]? = some (.dict l)) ∨ x = k.pa) → st'[x]? = st[x]?) : k.At d st' :=
  ⟨by rw [e _ (lt_of h.ins) (.inl h.ins)]; exact h.ins, by rw [e _ (lt_of h.shl) (.inr (.inl ⟨_, h.shl⟩))]; exact h.shl, by rw [e _ (lt_of h.pst) (.inr (.inr rfl))]; exact h.pst,
    fun p hp => by rw [e _ (lt_of (h.qs p hp)) (.inr (.inl ⟨_, h.qs p hp⟩))]; exact h.qs p hp, h.nd, h.ok, h.oks⟩
theorem Dk.At.grow {k : Dk} {d : Nat} {st : Sto} (h : k.At d st) (r : Sto) : k.At d (st ++ r) := h.keep fun x hx _ => List.getElem?_append_left hx
theorem remember_ok {k : Dk} {d : Nat} {st : Sto} (h : k.At d st) (hl : k.ps.length < 10000000) :
    F_Desk_remember [.loc d] st = .ok .non ((st ++ [SO.dict (shL k.now.kp)]).set k.pa (.lst ((k.ps ++ [(k.now, st.length)]).map pD))) := by
  have h1 := h.ins
  have h2 := h.shl
  have h3 := h.pst
  have g1 : (st ++ [SO.dict (shL k.now.kp)])[k.pa]? = some (.lst (k.ps.map pD)) := by rw [List.getElem?_append_left (lt_of h3)]; exact h3
  have e1 : bDictC [.loc k.sh] st = .ok (D.loc st.length) (st ++ [SO.dict (shL k.now.kp)]) := by
    show (match kvS st[k.sh]? with
      | some l => Res.ok (D.loc st.length) (st ++ [SO.dict l])
      | none => .bad) = _
    rw [h2]
    rfl
  have e2 : mApp (.loc k.pa) [.tup [planD k.now.row, .loc st.length]] (st ++ [SO.dict (shL k.now.kp)]) = .ok .non ((st ++ [SO.dict (shL k.now.kp)]).set k.pa (.lst ((k.ps ++ [(k.now, st.length)]).map pD))) := by
    unfold mApp
    simp only [g1]
    rw [if_pos (by rw [List.length_map]; omega), List.map_append]
    rfl
  generalize (k.ps ++ [(k.now, st.length)]).map pD = LL at *
  generalize st.length = SL at *
  generalize st ++ [SO.dict (shL k.now.kp)] = S1 at *
  generalize planD k.now.row = PN at *
  simp only [F_Desk_remember, g_Desk_remember]
  generalize bDictC = BD at e1 ⊢
  simp -implicitDefEqProofs [h1, h3, g1, e1, e2]
end Law
/-! desks: turned to another plan, taken back -/
namespace Law
open PySem Sh
def Dk.turn (k : Dk) (r : List Dd) (n : Nat) : Dk := ⟨⟨r, k.now.kp⟩, k.sh, k.pa, k.ps ++ [(k.now, n)]⟩
def deedsS (n : Nat) : Str := "deeds " ++ tx n
theorem len_o (r : List Dd) (hr : r.length ≤ 12) (st : Sto) : bLenO 3 F_Plan_len bLen [planD r] st = .ok (.int r.length) st := by
  have l : (r.map Dd.d).length = r.length := List.length_map _
  unfold planD
  generalize r.map Dd.d = L at *
  have : L.length ≤ 16777216 := by omega
  simp -implicitDefEqProofs [bLenO, insOf, F_Plan_len, g_Plan_len, cF, l]
  omega
theorem turn_at {k : Dk} {d : Nat} {st : Sto} (h : k.At d st) {r : List Dd} (hr : Oks r) (hl : r.length ≤ 12) :
    (k.turn r st.length).At d (((st ++ [SO.dict (shL k.now.kp)]).set k.pa (.lst ((k.ps ++ [(k.now, st.length)]).map pD))).set d (.ins 7 [planD r, .loc k.sh, .loc k.pa])) ∧ k.Chg d st (((st ++ [SO.dict (shL k.now.kp)]).set k.pa (.lst ((k.ps ++ [(k.now, st.length)]).map pD))).set d (.ins 7 [planD r, .loc k.sh, .loc k.pa])) := by
  have n1 := h.ne1
  have n2 := h.ne2
  have n3 := h.ne3
  have d1 := lt_of h.ins
  have d2 := lt_of h.shl
  have d3 := lt_of h.pst
  have old : ∀ x, x < st.length → x ≠ d → x ≠ k.pa → (((st ++ [SO.dict (shL k.now.kp)]).set k.pa (.lst ((k.ps ++ [(k.now, st.length)]).map pD))).set d (.ins 7 [planD r, .loc k.sh, .loc k.pa]))[x]? = st[x]? := fun x hx a b => by
    rw [List.getElem?_set_ne (Ne.symm a), List.getElem?_set_ne (Ne.symm b), List.getElem?_append_left hx]
  refine ⟨⟨?_, ?_, ?_, ?_, ?_, ?_, ?_⟩, ⟨by simp, fun x hx a b _ => old x hx a b⟩⟩
  · show _ = some (SO.ins 7 [planD r, .loc k.sh, .loc k.pa])
    rw [List.getElem?_set_self (by simp; omega)]
  · show _[k.sh]? = _
    rw [old _ d2 n2 n3]
    exact h.shl
  · show _[k.pa]? = _
    rw [List.getElem?_set_ne (Ne.symm n1), List.getElem?_set_self (by simp; omega)]
    rfl
  · intro p hp
    rcases List.mem_append.mp hp with hp | hp
    · obtain ⟨a, b, c⟩ := h.neq p hp
      rw [old _ (lt_of (h.qs p hp)) a b]
      exact h.qs p hp
    · have := List.mem_singleton.mp hp
      subst this
      show _[st.length]? = _
      rw [List.getElem?_set_ne (by omega), List.getElem?_set_ne (by omega), List.getElem?_append_right (Nat.le_refl _), Nat.sub_self]
      rfl
  · show (k.sh :: (k.ps ++ [(k.now, st.length)]).map Prod.snd).Nodup
    rw [List.map_append, ← List.cons_append, List.nodup_append]
    refine ⟨h.nd, by simp, fun a ha b hb e => ?_⟩
    have : b = st.length := List.mem_singleton.mp hb
    subst this; subst e
    rcases List.mem_cons.mp ha with ha | ha
    · omega
    · obtain ⟨p, hp, e⟩ := List.mem_map.mp ha
      have := lt_of (h.qs p hp)
      omega
  · exact ⟨hr, hl, h.ok.2.2⟩
  · intro p hp
    rcases List.mem_append.mp hp with hp | hp
    · exact h.oks p hp
    · have := List.mem_singleton.mp hp
      subst this
      exact h.ok
theorem deeds_js {f : EF} {n : Nat} (hn : n ≤ 12) {sg : Sg} {st : Sto} (hf : f sg st = .ok (.int n) st) : fJs [fC (.str "deeds "), fFmt f] Str.empty sg st = .ok (.str (deedsS n)) st := by
  have lg : (n : Int).natAbs.log2 < 64 := tx_log (Nat.lt_of_le_of_lt (show (n : Int).natAbs ≤ 12 by omega) (by decide))
  have lg : (n : Int).natAbs.log2 < 1920 := Nat.lt_trans lg (by decide)
  have tl : (tx (n : Int)).length ≤ 100 := tx_len (Nat.lt_of_le_of_lt (show (n : Int).natAbs ≤ 12 by omega) (by decide))
  have k1 : (("deeds " : Str)).length = 6 := rfl
  unfold deedsS
  unfold tx at *
  generalize hN : (n : Int) = N at *
  simp -implicitDefEqProofs [fJs, dFmt, e_app, hf, lg, len_app]
  simp -implicitDefEqProofs (disch := omega) [k1, len_app, if_pos]
theorem turn_ok {k : Dk} {d : Nat} {st : Sto} (h : k.At d st) (hl : k.ps.length < 10000000) {r : List Dd} (hr : Oks r) (hl2 : r.length ≤ 12) :
    ∃ st', F_Desk_turn_to [.loc d, planD r] st = .ok (.str (deedsS r.length)) st' ∧ (k.turn r st.length).At d st' ∧ k.Chg d st st' := by
  obtain ⟨at', ch⟩ := turn_at h hr hl2
  refine ⟨_, ?_, at', ch⟩
  have e1 := remember_ok h hl
  have h1 := h.ins
  have g1 : ((st ++ [SO.dict (shL k.now.kp)]).set k.pa (.lst ((k.ps ++ [(k.now, st.length)]).map pD)))[d]? = some (.ins 7 [planD k.now.row, .loc k.sh, .loc k.pa]) := by
    rw [List.getElem?_set_ne h.ne1, List.getElem?_append_left (lt_of h1)]
    exact h1
  generalize (st ++ [SO.dict (shL k.now.kp)]).set k.pa (.lst ((k.ps ++ [(k.now, st.length)]).map pD)) = S1 at *
  have js := deeds_js (f := fCall (bLenO 3 F_Plan_len bLen) (aCons (fVar 1) aNil)) hl2 (sg := [some (.loc d), some (planD r)]) (st := S1.set d (.ins 7 [planD r, .loc k.sh, .loc k.pa])) (by
    have e2 := len_o r hl2 (S1.set d (.ins 7 [planD r, .loc k.sh, .loc k.pa]))
    generalize planD r = PR at *
    generalize bLenO 3 F_Plan_len bLen = BL at e2 ⊢
    simp -implicitDefEqProofs [e2])
  clear at' ch
  generalize deedsS r.length = DS at *
  generalize planD k.now.row = PN at *
  generalize planD r = PR at *
  simp only [F_Desk_turn_to, g_Desk_turn_to]
  generalize fJs [fC (.str "deeds "), fFmt (fCall (bLenO 3 F_Plan_len bLen) (aCons (fVar 1) aNil))] Str.empty = FJ at js ⊢
  simp -implicitDefEqProofs [h1, e1, g1, js]
end Law
/-! desks: an order taken back, shown -/
namespace Law
open PySem Sh
theorem rfl_step {c i n : Nat} {l ds : List D} {d : D} {fo : EF} {r : List (Nat × Nat × EF)} {sg : Sg} {st : Sto} (hf : fo sg st = .ok (.loc n) st) (hn : st[n]? = some (.ins c l)) (hi : i < l.length) : rFlds ((c, i, fo) :: r) (d :: ds) sg st = rFlds r ds sg (st.set n (.ins c (l.set i d))) := by
  have o : oldF c i (.loc n) st = true := by
    show (match st[n]? with
      | some (.ins c' l) => decide (c' = c ∧ i < l.length)
      | _ => false) = true
    rw [hn]
    exact decide_eq_true ⟨rfl, hi⟩
  have sf : stFld c i (.loc n) d st = some (st.set n (.ins c (l.set i d))) := by
    show (match st[n]? with
      | some (.ins c' l) => if c' = c ∧ i ≤ l.length then some (st.set n (.ins c (if i < l.length then l.set i d else l ++ [d]))) else none
      | _ => none) = _
    rw [hn]
    dsimp only
    rw [if_pos ⟨rfl, Nat.le_of_lt hi⟩, if_pos hi]
  show ((fo sg st).bind fun x st1 => if oldF c i x st1 = true then (match stFld c i x d st1 with
    | some st2 => rFlds r ds sg st2
    | none => .bad) else .bad) = _
  rw [hf]
  dsimp only [Res.bind]
  rw [if_pos o, sf]
def Dk.back (k : Dk) (s : Sn) (q : Nat) (qs : List (Sn × Nat)) : Dk := ⟨s, q, k.pa, qs⟩
theorem undo_ok {k : Dk} {d : Nat} {st : Sto} (h : k.At d st) {qs : List (Sn × Nat)} {s : Sn} {q : Nat} (e : k.ps = qs ++ [(s, q)]) :
    ∃ st', F_Desk_undo [.loc d] st = .ok (.str "undone") st' ∧ (k.back s q qs).At d st' ∧ k.Chg d st st' := by
  have n1 := h.ne1
  have h1 := h.ins
  have h3 := h.pst
  have d1 := lt_of h1
  have d3 := lt_of h3
  have e0 : dEqE (.loc k.pa) (.lst []) st = .ok (.bl false) st := by
    rw [e, List.map_append] at h3
    have : ((qs.map pD) ++ ([(s, q)].map pD)).isEmpty = false := by simp
    unfold dEqE lstOf
    simp only [h3]
    rw [this]
  have e2 : mPop (.loc k.pa) [] st = .ok (pD (s, q)) (st.set k.pa (.lst (qs.map pD))) := by
    rw [e, List.map_append] at h3
    have a : ((qs.map pD) ++ ([(s, q)].map pD))[((qs.map pD) ++ ([(s, q)].map pD)).length - 1]? = some (pD (s, q)) := by simp
    have b : ((qs.map pD) ++ ([(s, q)].map pD)).dropLast = qs.map pD := by simp
    unfold mPop
    simp only [h3]
    rw [a, b]
  have mq : (s, q) ∈ k.ps := by rw [e]; simp
  obtain ⟨q1, q2, q3⟩ := h.neq _ mq
  have q4 := h.qs _ mq
  refine ⟨(st.set k.pa (.lst (qs.map pD))).set d (.ins 7 [planD s.row, .loc q, .loc k.pa]), ?_, ⟨?_, ?_, ?_, ?_, ?_, ?_, ?_⟩, ⟨by simp, fun x hx a b _ => ?_⟩⟩
  · have g1 : (st.set k.pa (.lst (qs.map pD)))[d]? = some (.ins 7 [planD k.now.row, .loc k.sh, .loc k.pa]) := by rw [List.getElem?_set_ne n1]; exact h1
    have rf : ∀ sg : Sg, sg[0]? = some (some (.loc d)) → rFlds [(7, 0, fVar 0), (7, 1, fVar 0)] [planD s.row, .loc q] sg (st.set k.pa (.lst (qs.map pD))) = .ok () ((st.set k.pa (.lst (qs.map pD))).set d (.ins 7 [planD s.row, .loc q, .loc k.pa])) := fun sg hs => by
      have f0 : ∀ st : Sto, fVar 0 sg st = .ok (.loc d) st := fun st => by simp -implicitDefEqProofs [hs]
      have dl : d < (st.set k.pa (.lst (qs.map pD))).length := by simp; omega
      generalize st.set k.pa (.lst (qs.map pD)) = S1 at *
      rw [rfl_step (f0 _) g1 (by simp), rfl_step (f0 _) (List.getElem?_set_self dl) (by simp)]
      show Res.ok () _ = _
      rw [List.set_set]
      rfl
    generalize st.set k.pa (.lst (qs.map pD)) = S1 at *
    have pd : pD (s, q) = .tup [planD s.row, .loc q] := rfl
    rw [pd] at e2
    have rf := rf [some (.loc d)] rfl
    generalize planD k.now.row = PN at *
    generalize planD s.row = PS at *
    simp only [F_Desk_undo, g_Desk_undo]
    simp -implicitDefEqProofs [h1, h3, e0, e2, rf]
  · show _ = some (SO.ins 7 [planD s.row, .loc q, .loc k.pa])
    rw [List.getElem?_set_self (by simp; omega)]
  · show _[q]? = _
    rw [List.getElem?_set_ne (Ne.symm q1), List.getElem?_set_ne (Ne.symm q2)]
    exact q4
  · show _[k.pa]? = _
    rw [List.getElem?_set_ne (Ne.symm n1), List.getElem?_set_self d3]
    rfl
  · intro p hp
    have mp : p ∈ k.ps := by rw [e]; exact List.mem_append_left _ hp
    obtain ⟨p1, p2, p3⟩ := h.neq p mp
    rw [List.getElem?_set_ne (Ne.symm p1), List.getElem?_set_ne (Ne.symm p2)]
    exact h.qs p mp
  · have nd := (List.nodup_cons.mp h.nd).2
    rw [e, List.map_append] at nd
    show (q :: qs.map Prod.snd).Nodup
    obtain ⟨a, b, c⟩ := List.nodup_append.mp nd
    exact List.nodup_cons.mpr ⟨fun hm => c q hm q (by simp) rfl, a⟩
  · exact h.oks _ mq
  · intro p hp
    exact h.oks p (by rw [e]; exact List.mem_append_left _ hp)
  · rw [List.getElem?_set_ne (Ne.symm a), List.getElem?_set_ne (Ne.symm b)]
theorem undo_no {k : Dk} {d : Nat} {st : Sto} (h : k.At d st) (e : k.ps = []) : F_Desk_undo [.loc d] st = .exc 14 none st := by
  have h1 := h.ins
  have h3 := h.pst
  rw [e] at h3
  have e0 : dEqE (.loc k.pa) (.lst []) st = .ok (.bl true) st := by
    unfold dEqE lstOf
    simp only [h3]
    rfl
  generalize planD k.now.row = PN at *
  simp only [F_Desk_undo, g_Desk_undo]
  simp -implicitDefEqProofs [h1, h3, e0]
/-- what a desk shows -/
def showS (r : List Dd) : Str := if r = [] then "nothing" else planS r
theorem planS_nil : planS [] = ("" : Str) := rfl
theorem len0 {x : Str} (h : x.length = 0) : x = ("" : Str) := by
  cases x with
  | mk a =>
    have : a = #[] := Array.eq_empty_of_size_eq_zero h
    rw [this]
    rfl
theorem planS_cons {r : List Dd} (h : Oks r) (hr : r ≠ []) : (planS r).length ≠ 0 := fun z => page_ne h hr (len0 z)
end Law
/-! desks: orders -/
namespace Law
open PySem Sh
theorem keepIx_far (n : Nat) : ∀ (ds : List Dd) (i : Nat), n < i → keepIx [(n : Int)] i ds = ds
  | [], _, _ => rfl
  | d :: ds, i, h => by
    unfold keepIx
    rw [if_neg (by simp; omega), keepIx_far n ds (i + 1) (by omega)]
theorem keepIx_at (n : Nat) : ∀ (ds : List Dd) (i : Nat), i ≤ n → keepIx [(n : Int)] i ds = ds.take (n - i) ++ ds.drop (n - i + 1)
  | [], _, _ => by simp [keepIx]
  | d :: ds, i, h => by
    unfold keepIx
    by_cases c : n = i
    · subst c
      rw [if_pos (by simp), keepIx_far n ds (n + 1) (by omega), Nat.sub_self]
      rfl
    · rw [if_neg (by simp; omega), keepIx_at n ds (i + 1) (by omega)]
      have : n - i = n - (i + 1) + 1 := by omega
      rw [this]
      rfl
def cutN (n : Nat) (ds : List Dd) : List Dd := ds.take n ++ ds.drop (n + 1)
theorem cutN_ok {n : Nat} {ds : List Dd} (h : Oks ds) : Oks (cutN n ds) := (h.take n).append (h.drop (n + 1))
theorem cutN_len {n : Nat} {ds : List Dd} (h : ds.length ≤ 12) : (cutN n ds).length ≤ 12 := by
  unfold cutN
  rw [List.length_append, List.length_take, List.length_drop]
  omega
theorem without_one {n : Nat} {ds : List Dd} (hok : Oks ds) (hl : ds.length ≤ 12) (hn : n < ds.length) (st : Sto) : F_Plan_without [planD ds, .tup [.int n]] st = .ok (planD (cutN n ds)) (st ++ [.lst [.int n]]) := by
  have := plan_without_g (ds := ds) (items := [.int n]) (s := [(n : Int)]) (st := st) hok hl (fun x hx => by
    have := List.mem_singleton.mp hx
    subst this
    exact ⟨rfl, rfl⟩) (by simp) (by simp [scanW]; omega)
  rw [keepIx_at n ds 0 (Nat.zero_le _), Nat.sub_zero] at this
  exact this
theorem num_facts : ∀ k : Fin 100, Txt.isdigit (tx (k.val : Int)) = true ∧ Txt.startswith (tx (k.val : Int)) "-" = false ∧ ((tx (k.val : Int)) = ("0" : Str) ∨ Txt.startswith (tx (k.val : Int)) "0" = false) ∧ PySem.intText? (tx (k.val : Int)) = some (k.val : Int) ∧ (tx (k.val : Int)).length ≤ 2 ∧ Txt.partition (("drop " : Str) ++ tx (k.val : Int)) (" " : Str) = (("drop" : Str), (" " : Str), tx (k.val : Int)) := by decide +kernel
theorem number_of_ok {n : Nat} (hn : n < 100) (st : Sto) : F_number_of [.str (tx n), .int 0, .int 99] st = .ok (.int n) st := by
  obtain ⟨a, b, c, d, e, _⟩ := num_facts ⟨n, hn⟩
  simp only at a b c d e
  have l2 : (tx (n : Int)).length ≤ 640 := by omega
  have rn : F_read_number [.str (tx n)] st = .ok (.int n) st := by
    generalize tx (n : Int) = t at *
    rcases c with c | c
    · subst c
      have z : ∀ S, dNe (.str ("0" : Str)) (.str ("0" : Str)) S = .ok (.bl false) S := fun S => by
        rw [dNe_py _ rfl rfl (by simp [dep])]
        rfl
      have s0 : Txt.startswith ("0" : Str) "0" = true := by decide +kernel
      simp -implicitDefEqProofs [F_read_number, g_read_number, mS2B, mDigit, bIntS, a, b, s0, z, d, l2]
    · simp -implicitDefEqProofs [F_read_number, g_read_number, mS2B, mDigit, bIntS, a, b, c, d, l2]
  have n0 : (0 : Int) ≤ n := by omega
  have n9 : (n : Int) ≤ 99 := by omega
  generalize tx (n : Int) = t at *
  generalize (n : Int) = N at *
  simp -implicitDefEqProofs [F_number_of, g_number_of, fChn, rn, n0, n9]
theorem put_ok {k : Dk} {d : Nat} {st : Sto} (h : k.At d st) (hl : k.ps.length < 10000000) {x : Dd} (hx : x.ok) (hr : k.now.row.length < 12) :
    ∃ st', F_Desk_put_deed [.loc d, x.d] st = .ok (.str (deedsS (k.now.row.length + 1))) st' ∧ (k.turn (k.now.row ++ [x]) st.length).At d st' ∧ k.Chg d st st' := by
  have ox : Oks [x] := fun y hy => by rw [List.mem_singleton.mp hy]; exact hx
  obtain ⟨st', e, a, c⟩ := turn_ok h hl (r := k.now.row ++ [x]) (h.ok.1.append ox) (by rw [List.length_append]; show k.now.row.length + 1 ≤ 12; omega)
  rw [List.length_append, show [x].length = 1 from rfl] at e
  refine ⟨st', ?_, a, c⟩
  have i1 := is_deed_ok hx st
  have h1 := h.ins
  have l1 := len_o k.now.row (by omega) st
  have nl : ¬ ((k.now.row.length : Nat) : Int) = 12 := by omega
  have p1 : mkF 3 F_Plan_init 2 [] [.tup [x.d]] st = .ok (planD [x]) st := plan_new ox (show 1 ≤ 12 by decide) st
  have p2 := plan_add (a := k.now.row) (b := [x]) h.ok.1 ox (by show k.now.row.length + 1 ≤ 12; omega) st
  have oi : dOwnI 3 F_Plan_add 2 (fun _ _ _ => .bad) (planD k.now.row) (planD [x]) st = .ok (planD (k.now.row ++ [x])) st := by
    show (cF F_Plan_add 2 [] [planD k.now.row, planD [x]] st) = _
    exact p2
  clear a c p2 ox
  generalize deedsS (k.now.row.length + 1) = DS at *
  generalize planD (k.now.row ++ [x]) = PR at *
  generalize planD [x] = P1 at *
  generalize planD k.now.row = PN at *
  generalize x.d = XD at *
  generalize ((k.now.row.length : Nat) : Int) = NL at *
  simp only [F_Desk_put_deed, g_Desk_put_deed]
  generalize bLenO 3 F_Plan_len bLen = BL at l1 ⊢
  generalize dOwnI 3 F_Plan_add 2 (fun _ _ _ => .bad) = OI at oi ⊢
  simp -implicitDefEqProofs [i1, h1, l1, nl, p1, oi, e]
theorem put_full {k : Dk} {d : Nat} {st : Sto} (h : k.At d st) {x : Dd} (hx : x.ok) (hr : k.now.row.length = 12) : F_Desk_put_deed [.loc d, x.d] st = .exc 17 none st := by
  have i1 := is_deed_ok hx st
  have h1 := h.ins
  have l1 := len_o k.now.row (by omega) st
  rw [hr] at l1
  generalize planD k.now.row = PN at *
  generalize x.d = XD at *
  simp only [F_Desk_put_deed, g_Desk_put_deed]
  generalize bLenO 3 F_Plan_len bLen = BL at l1 ⊢
  simp -implicitDefEqProofs [i1, h1, l1]
theorem drop_ok {k : Dk} {d : Nat} {st : Sto} (h : k.At d st) (hl : k.ps.length < 10000000) {n : Nat} (hn : n < 100) (hr : n < k.now.row.length) :
    ∃ (m : Nat) (st' : Sto), F_Desk_change [.loc d, .str "drop", .str (tx n)] st = .ok (.str (deedsS (cutN n k.now.row).length)) st' ∧ (k.turn (cutN n k.now.row) m).At d st' ∧ k.Chg d st st' := by
  have h2 := h.grow [SO.lst [.int n]]
  obtain ⟨st', e, a, c⟩ := turn_ok h2 hl (r := cutN n k.now.row) (cutN_ok h.ok.1) (cutN_len h.ok.2.1)
  refine ⟨_, st', ?_, a, ⟨Nat.le_trans (by simp) c.len, fun x hx p q r => by rw [c.oth x (by simp; omega) p q r, List.getElem?_append_left hx]⟩⟩
  have n1 := number_of_ok hn st
  have h1 := h.ins
  have l1 := len_o k.now.row h.ok.2.1 st
  have nl : ¬ ((k.now.row.length : Nat) : Int) ≤ (n : Int) := by omega
  have w := without_one h.ok.1 h.ok.2.1 hr st
  clear a c h2
  have pn : planD k.now.row = .ins 3 [.tup (k.now.row.map Dd.d)] := rfl
  rw [pn] at h1 l1 w
  generalize k.now.row.map Dd.d = RD at *
  generalize deedsS (cutN n k.now.row).length = DS at *
  generalize planD (cutN n k.now.row) = PR at *
  clear pn
  generalize ((k.now.row.length : Nat) : Int) = NL at *
  generalize tx (n : Int) = T at *
  generalize (n : Int) = N at *
  generalize st ++ [SO.lst [.int N]] = S1 at *
  simp only [F_Desk_change, g_Desk_change]
  generalize bLenO 3 F_Plan_len bLen = BL at l1 ⊢
  simp -implicitDefEqProofs [n1, h1, l1, nl, w, e]
theorem drop_no {k : Dk} {d : Nat} {st : Sto} (h : k.At d st) {n : Nat} (hn : n < 100) (hr : k.now.row.length ≤ n) : F_Desk_change [.loc d, .str "drop", .str (tx n)] st = .exc 19 (some (.int n)) st := by
  have n1 := number_of_ok hn st
  have h1 := h.ins
  have l1 := len_o k.now.row h.ok.2.1 st
  have nl : ((k.now.row.length : Nat) : Int) ≤ (n : Int) := by omega
  generalize planD k.now.row = PN at *
  generalize ((k.now.row.length : Nat) : Int) = NL at *
  generalize tx (n : Int) = T at *
  generalize (n : Int) = N at *
  simp only [F_Desk_change, g_Desk_change]
  generalize bLenO 3 F_Plan_len bLen = BL at l1 ⊢
  simp -implicitDefEqProofs [n1, h1, l1, nl]
end Law
/-! desks: orders as texts -/
namespace Law
open PySem Sh
theorem part_show : Txt.partition ("show" : Str) (" " : Str) = (("show" : Str), ("" : Str), ("" : Str)) := by decide +kernel
theorem part_clear : Txt.partition ("clear" : Str) (" " : Str) = (("clear" : Str), ("" : Str), ("" : Str)) := by decide +kernel
theorem part_undo : Txt.partition ("undo" : Str) (" " : Str) = (("undo" : Str), ("" : Str), ("" : Str)) := by decide +kernel
theorem order_alone {x : Str} {d : Nat} {st : Sto} {r : Res D} (hp : Txt.partition x (" " : Str) = (x, ("" : Str), ("" : Str))) (hx : x.length ≤ 100) (h : (st[d]? : Option SO).isSome = true) (hi : ∃ l, st[d]? = some (.ins 7 l)) (e : F_Desk_alone [.loc d, .str x] st = r) (hr : r ≠ .bad) : F_Desk_order [.loc d, .str x] st = r := by
  obtain ⟨l, hl⟩ := hi
  have lx : x.length ≤ 16777216 := by omega
  have k1 : ((" " : Str)).length = 1 := rfl
  have k0 : (("" : Str)).length = 0 := rfl
  simp -implicitDefEqProofs [F_Desk_order, g_Desk_order, mPart, hp, lx, k1, k0, hl, e]
  cases r with
  | ok a b => rfl
  | exc a b c => rfl
  | bad => exact absurd rfl hr
theorem order_change {w x y : Str} {d : Nat} {st : Sto} {r : Res D} (hw : w = ("add" : Str) ∨ w = ("drop" : Str)) (hp : Txt.partition x (" " : Str) = (w, (" " : Str), y)) (hx : x.length ≤ 1000) (hi : ∃ l, st[d]? = some (.ins 7 l)) (e : F_Desk_change [.loc d, .str w, .str y] st = r) (hr : r ≠ .bad) : F_Desk_order [.loc d, .str x] st = r := by
  obtain ⟨l, hl⟩ := hi
  have lx : x.length ≤ 16777216 := by omega
  have k1 : ((" " : Str)).length = 1 := rfl
  have kk : ∀ S, dInL false (.str w) (.tup [.str "add", .str "drop", .str "take", .str "keep"]) S = .ok (.bl true) S := fun S => by
    rcases hw with rfl | rfl <;> rw [dInL_tup rfl rfl] <;> rfl
  simp -implicitDefEqProofs [F_Desk_order, g_Desk_order, mPart, hp, lx, k1, hl, kk, e]
  cases r with
  | ok a b => rfl
  | exc a b c => rfl
  | bad => exact absurd rfl hr
theorem Dk.At.is {k : Dk} {d : Nat} {st : Sto} (h : k.At d st) : ∃ l, st[d]? = some (.ins 7 l) := ⟨_, h.ins⟩
theorem Dk.At.sm {k : Dk} {d : Nat} {st : Sto} (h : k.At d st) : (st[d]? : Option SO).isSome = true := by rw [h.ins]; rfl
theorem order_show {k : Dk} {d : Nat} {st : Sto} (h : k.At d st) : F_Desk_order [.loc d, .str "show"] st = .ok (.str (showS k.now.row)) st := by
  refine order_alone part_show (by decide) h.sm h.is ?_ (by simp)
  have h1 := h.ins
  have pt := plan_text h.ok.1 (by have := h.ok.2.1; omega) st
  have e1 : ∀ S, dEq (.str ("show" : Str)) (.str ("clear" : Str)) S = .ok (.bl false) S := fun S => rfl
  unfold showS
  by_cases c : k.now.row = []
  · rw [if_pos c]
    rw [c, planS_nil] at pt
    rw [c] at h1
    generalize planD [] = P0 at *
    have k0 : (("" : Str)).length = 0 := rfl
    simp only [F_Desk_alone, g_Desk_alone]
    simp -implicitDefEqProofs [h1, pt, k0]
  · rw [if_neg c]
    have ne := planS_cons h.ok.1 c
    have pl := planS_len h.ok.1 (by have := h.ok.2.1; omega)
    generalize planS k.now.row = PS at *
    generalize planD k.now.row = PN at *
    simp only [F_Desk_alone, g_Desk_alone]
    have b : (((PS.length : Nat) : Int) != 0) = true := by simpa using ne
    have l2 : PS.length ≤ 16777216 := by omega
    simp -implicitDefEqProofs [h1, pt, l2, b]
theorem order_clear {k : Dk} {d : Nat} {st : Sto} (h : k.At d st) (hl : k.ps.length < 10000000) :
    ∃ (m : Nat) (st' : Sto), F_Desk_order [.loc d, .str "clear"] st = .ok (.str (deedsS 0)) st' ∧ (k.turn [] m).At d st' ∧ k.Chg d st st' := by
  obtain ⟨st', e, a, c⟩ := turn_ok h hl (r := []) (fun _ z => by cases z) (by decide)
  refine ⟨_, st', order_alone part_clear (by decide) h.sm h.is ?_ (by simp), a, c⟩
  have p1 : mkF 3 F_Plan_init 2 [.tup []] [] st = .ok (planD []) st := plan_new (ds := []) (fun _ z => by cases z) (by decide) st
  have h1 := h.ins
  have e : F_Desk_turn_to [.loc d, planD []] st = .ok (.str (deedsS 0)) st' := e
  generalize planD k.now.row = PN at *
  generalize planD [] = P0 at *
  generalize deedsS 0 = DS at *
  simp only [F_Desk_alone, g_Desk_alone]
  simp -implicitDefEqProofs [h1, p1, e]
theorem order_undo {k : Dk} {d : Nat} {st : Sto} (h : k.At d st) {qs : List (Sn × Nat)} {s : Sn} {q : Nat} (e : k.ps = qs ++ [(s, q)]) :
    ∃ st', F_Desk_order [.loc d, .str "undo"] st = .ok (.str "undone") st' ∧ (k.back s q qs).At d st' ∧ k.Chg d st st' := by
  obtain ⟨st', e, a, c⟩ := undo_ok h e
  refine ⟨st', order_alone part_undo (by decide) h.sm h.is ?_ (by simp), a, c⟩
  have h1 := h.ins
  generalize planD k.now.row = PN at *
  simp only [F_Desk_alone, g_Desk_alone]
  simp -implicitDefEqProofs [h1, e]
theorem order_undo_no {k : Dk} {d : Nat} {st : Sto} (h : k.At d st) (e : k.ps = []) : F_Desk_order [.loc d, .str "undo"] st = .exc 14 none st := by
  have e := undo_no h e
  refine order_alone part_undo (by decide) h.sm h.is ?_ (by simp)
  have h1 := h.ins
  generalize planD k.now.row = PN at *
  simp only [F_Desk_alone, g_Desk_alone]
  simp -implicitDefEqProofs [h1, e]
theorem part_add (x : Str) : Txt.partition (("add " : Str) ++ x) (" " : Str) = (("add" : Str), (" " : Str), x) := by
  have : ("add " : Str) ++ x = ("add" : Str) ++ (" " : Str) ++ x := by
    rw [show ("add " : Str) = ("add" : Str) ++ (" " : Str) from by decide +kernel]
  rw [this]
  exact TL.partition_app sp_tl (by decide +kernel)
theorem order_add {k : Dk} {d : Nat} {st : Sto} (h : k.At d st) (hl : k.ps.length < 10000000) {x : Dd} (hx : x.ok) (hr : k.now.row.length < 12) :
    ∃ (m : Nat) (st' : Sto), F_Desk_order [.loc d, .str (("add " : Str) ++ x.s)] st = .ok (.str (deedsS (k.now.row.length + 1))) st' ∧ (k.turn (k.now.row ++ [x]) m).At d st' ∧ k.Chg d st st' := by
  obtain ⟨st', e, a, c⟩ := put_ok h hl hx hr
  refine ⟨_, st', order_change (.inl rfl) (part_add x.s) ?_ h.is ?_ (by simp), a, c⟩
  · have := Dd.s_len hx
    rw [len_app]
    have k1 : (("add " : Str)).length = 4 := rfl
    omega
  · have rd := deed_read hx st
    have h1 := h.ins
    generalize planD k.now.row = PN at *
    generalize deedsS (k.now.row.length + 1) = DS at *
    generalize x.d = XD at *
    generalize x.s = XS at *
    simp only [F_Desk_change, g_Desk_change]
    simp -implicitDefEqProofs [h1, rd, e]
theorem order_add_full {k : Dk} {d : Nat} {st : Sto} (h : k.At d st) {x : Dd} (hx : x.ok) (hr : k.now.row.length = 12) : F_Desk_order [.loc d, .str (("add " : Str) ++ x.s)] st = .exc 17 none st := by
  have e := put_full h hx hr
  refine order_change (.inl rfl) (part_add x.s) ?_ h.is ?_ (by simp)
  · have := Dd.s_len hx
    rw [len_app]
    have k1 : (("add " : Str)).length = 4 := rfl
    omega
  · have rd := deed_read hx st
    have h1 := h.ins
    generalize planD k.now.row = PN at *
    generalize x.d = XD at *
    generalize x.s = XS at *
    simp only [F_Desk_change, g_Desk_change]
    simp -implicitDefEqProofs [h1, rd, e]
theorem order_drop {k : Dk} {d : Nat} {st : Sto} (h : k.At d st) (hl : k.ps.length < 10000000) {n : Nat} (hn : n < 100) (hr : n < k.now.row.length) :
    ∃ (m : Nat) (st' : Sto), F_Desk_order [.loc d, .str (("drop " : Str) ++ tx n)] st = .ok (.str (deedsS (cutN n k.now.row).length)) st' ∧ (k.turn (cutN n k.now.row) m).At d st' ∧ k.Chg d st st' := by
  obtain ⟨m, st', e, a, c⟩ := drop_ok h hl hn hr
  obtain ⟨_, _, _, _, l, pt⟩ := num_facts ⟨n, hn⟩
  simp only at l pt
  refine ⟨m, st', order_change (.inr rfl) pt ?_ h.is e (by simp), a, c⟩
  rw [len_app]
  have k1 : (("drop " : Str)).length = 5 := rfl
  omega
theorem order_drop_no {k : Dk} {d : Nat} {st : Sto} (h : k.At d st) {n : Nat} (hn : n < 100) (hr : k.now.row.length ≤ n) : F_Desk_order [.loc d, .str (("drop " : Str) ++ tx n)] st = .exc 19 (some (.int n)) st := by
  have e := drop_no h hn hr
  obtain ⟨_, _, _, _, l, pt⟩ := num_facts ⟨n, hn⟩
  simp only at l pt
  refine order_change (.inr rfl) pt ?_ h.is e (by simp)
  rw [len_app]
  have k1 : (("drop " : Str)).length = 5 := rfl
  omega
/-- a new desk -/
theorem desk_new (st : Sto) : ∃ k : Dk, mkL 7 F_Desk_init 1 [] [] st = .ok (.loc st.length) (st ++ [.ins 7 [planD [], .loc (st.length + 1), .loc (st.length + 2)], .dict [], .lst []]) ∧ k.At st.length (st ++ [.ins 7 [planD [], .loc (st.length + 1), .loc (st.length + 2)], .dict [], .lst []]) ∧ k.now = ⟨[], []⟩ ∧ k.ps = [] := by
  refine ⟨⟨⟨[], []⟩, st.length + 1, st.length + 2, []⟩, ?_, ⟨?_, ?_, ?_, (fun _ z => by cases z), by simp, ⟨(fun _ z => by cases z), by simp, (fun _ z => by cases z)⟩, (fun _ z => by cases z)⟩, rfl, rfl⟩
  · have p1 : ∀ st, mkF 3 F_Plan_init 2 [.tup []] [] st = .ok (planD []) st := fun st => plan_new (ds := []) (fun _ z => by cases z) (by decide) st
    generalize planD [] = P0 at *
    simp only [mkL, mkLG, cF, F_Desk_init, g_Desk_init]
    simp -implicitDefEqProofs [p1, fNewD]
  · rw [List.getElem?_append_right (Nat.le_refl _), Nat.sub_self]
    rfl
  · show (st ++ _)[st.length + 1]? = _
    rw [List.getElem?_append_right (by omega), show st.length + 1 - st.length = 1 by omega]
    rfl
  · show (st ++ _)[st.length + 2]? = _
    rw [List.getElem?_append_right (by omega), show st.length + 2 - st.length = 2 by omega]
    rfl
end Law
/-! k80: told, due -/
namespace Law
open PySem Sh
theorem told_ok {d : Nat} {x y : Str} {st st' : Sto} (h : F_Desk_order [.loc d, .str x] st = .ok (.str y) st') (hi : ∃ l, st[d]? = some (.ins 7 l)) : F_law_told [.loc d, .str x] st = .ok (.str y) st' := by
  obtain ⟨l, hl⟩ := hi
  simp -implicitDefEqProofs [F_law_told, g_law_told, sTryM, hl, h]
theorem told_room {d : Nat} {x : Str} {st : Sto} (h : F_Desk_order [.loc d, .str x] st = .exc 17 none st) (hi : ∃ l, st[d]? = some (.ins 7 l)) : F_law_told [.loc d, .str x] st = .ok (.lst [.str "room"]) st := by
  obtain ⟨l, hl⟩ := hi
  simp -implicitDefEqProofs [F_law_told, g_law_told, sTryM, pickM, Flw.noexc, hl, h]
theorem told_undo {d : Nat} {x : Str} {st : Sto} (h : F_Desk_order [.loc d, .str x] st = .exc 14 none st) (hi : ∃ l, st[d]? = some (.ins 7 l)) : F_law_told [.loc d, .str x] st = .ok (.lst [.str "undo"]) st := by
  obtain ⟨l, hl⟩ := hi
  simp -implicitDefEqProofs [F_law_told, g_law_told, sTryM, pickM, Flw.noexc, hl, h]
theorem told_deed {d : Nat} {x : Str} {n : Int} {st : Sto} (h : F_Desk_order [.loc d, .str x] st = .exc 19 (some (.int n)) st) (hi : ∃ l, st[d]? = some (.ins 7 l)) : F_law_told [.loc d, .str x] st = .ok (.lst [.str "deed", .int n]) st := by
  obtain ⟨l, hl⟩ := hi
  simp -implicitDefEqProofs [F_law_told, g_law_told, sTryM, pickM, Flw.unx, hl, h]
def rT (r : List Dd) : D := .tup (r.map Dd.d)
theorem due_room {lp : Nat} {row : List Dd} {n : Int} {x : D} {st : Sto} (h : row.length = 12) : F_law_due [.loc lp, rT row, .str "add", .int n, x] st = .ok (.tup [.lst [.str "room"], rT row]) st := by
  have l : (row.map Dd.d).length = 12 := by rw [List.length_map, h]
  unfold rT
  generalize row.map Dd.d = R at *
  simp -implicitDefEqProofs [F_law_due, g_law_due, l]
theorem due_deed {lp : Nat} {row : List Dd} {n : Nat} {x : D} {st : Sto} (h : row.length ≤ n) (hl : row.length ≤ 12) : F_law_due [.loc lp, rT row, .str "drop", .int n, x] st = .ok (.tup [.lst [.str "deed", .int n], rT row]) st := by
  have l : ((row.map Dd.d).length : Int) ≤ (n : Int) := by rw [List.length_map]; omega
  have l2 : ((row.map Dd.d).length : Int) < 9223372036854775808 := by rw [List.length_map]; omega
  unfold rT
  generalize row.map Dd.d = R at *
  generalize (n : Int) = N at *
  simp -implicitDefEqProofs [F_law_due, g_law_due, l, l2]
theorem due_undo_no {lp : Nat} {row : List Dd} {n : Int} {x : D} {st : Sto} (h : st[lp]? = some (.lst [])) : F_law_due [.loc lp, rT row, .str "undo", .int n, x] st = .ok (.tup [.lst [.str "undo"], rT row]) st := by
  have e0 : dEqE (.loc lp) (.lst []) st = .ok (.bl true) st := by
    unfold dEqE lstOf
    simp only [h]
    rfl
  unfold rT
  generalize row.map Dd.d = R at *
  simp -implicitDefEqProofs [F_law_due, g_law_due, e0, h]
theorem due_undo {lp : Nat} {row r : List Dd} {rs : List (List Dd)} {n : Int} {x : D} {st : Sto} (h : st[lp]? = some (.lst ((rs ++ [r]).map rT))) : F_law_due [.loc lp, rT row, .str "undo", .int n, x] st = .ok (.tup [.str "undone", rT r]) (st.set lp (.lst (rs.map rT))) := by
  rw [List.map_append] at h
  have e0 : dEqE (.loc lp) (.lst []) st = .ok (.bl false) st := by
    have : ((rs.map rT) ++ ([r].map rT)).isEmpty = false := by simp
    unfold dEqE lstOf
    simp only [h]
    rw [this]
  have e2 : mPop (.loc lp) [] st = .ok (rT r) (st.set lp (.lst (rs.map rT))) := by
    have a : ((rs.map rT) ++ ([r].map rT))[((rs.map rT) ++ ([r].map rT)).length - 1]? = some (rT r) := by simp
    have b : ((rs.map rT) ++ ([r].map rT)).dropLast = rs.map rT := by simp
    unfold mPop
    simp only [h]
    rw [a, b]
  generalize rT r = RT at *
  generalize rT row = RW at *
  generalize (rs.map rT) ++ ([r].map rT) = RR at *
  simp -implicitDefEqProofs [F_law_due, g_law_due, e0, e2, h]
theorem due_show {lp : Nat} {row : List Dd} {n : Int} {x : D} {st : Sto} (hok : Oks row) (hl : row.length ≤ 12) : F_law_due [.loc lp, rT row, .str "show", .int n, x] st = .ok (.tup [.str (showS row), rT row]) st := by
  have lt : F_law_text [rT row] st = .ok (.str (planS row)) st := law_text hok (by omega) st
  unfold showS
  by_cases c : row = []
  · rw [if_pos c]
    subst c
    have ne : ∀ S, dNe (rT []) (.tup []) S = .ok (.bl false) S := fun S => by
      rw [dNe_py _ rfl rfl (by simp [dep, rT])]
      rfl
    generalize rT [] = R at *
    simp -implicitDefEqProofs [F_law_due, g_law_due, ne]
  · rw [if_neg c]
    have ne : ∀ S, dNe (rT row) (.tup []) S = .ok (.bl true) S := fun S => by
      rw [dNe_py _ (by show pys (row.map Dd.d) = true; exact py_dds row) rfl (by have := dep_dds row; simp [dep, rT])]
      cases row with
      | nil => exact absurd rfl c
      | cons a b => rfl
    generalize planS row = PS at *
    generalize rT row = R at *
    simp -implicitDefEqProofs [F_law_due, g_law_due, ne, lt]
end Law
/-! k80: due where the plan changes -/
namespace Law
open PySem Sh
theorem w_ne : (Str.ofString "add" = Str.ofString "clear") = False ∧ (Str.ofString "add" = Str.ofString "drop") = False ∧ (Str.ofString "clear" = Str.ofString "drop") = False ∧ (Str.ofString "clear" = Str.ofString "add") = False ∧ (Str.ofString "drop" = Str.ofString "add") = False ∧ (Str.ofString "drop" = Str.ofString "clear") = False := by
  refine ⟨?_, ?_, ?_, ?_, ?_, ?_⟩ <;> exact eq_false (by decide)
/-- three values by three words -/
theorem disp3 {A B C : EF} {a b c : D} {sg : Sg} {st : Sto} (ha : ∀ r, A sg (st ++ r) = .ok a (st ++ r)) (hb : ∀ r, B sg (st ++ r) = .ok b (st ++ r)) (hc : ∀ r, C sg (st ++ r) = .ok c (st ++ r)) :
    fDisp [((fC (.str "add")), A), ((fC (.str "clear")), B), ((fC (.str "drop")), C)] sg st = .ok (.loc st.length) (st ++ [.dict [(.inr "add", a), (.inr "clear", b), (.inr "drop", c)]]) := by
  obtain ⟨n1, n2, n3, n4, n5, n6⟩ := w_ne
  simp -implicitDefEqProofs [fDisp, dispF, fPairs, mergeD, putD, dKey, ha, hb, hc, n1, n2, n3, n4, n5, n6]
theorem get3 {A B C f : EF} {a b c : D} {sg : Sg} {st : Sto} (ha : ∀ r, A sg (st ++ r) = .ok a (st ++ r)) (hb : ∀ r, B sg (st ++ r) = .ok b (st ++ r)) (hc : ∀ r, C sg (st ++ r) = .ok c (st ++ r)) {w : Str} (hf : ∀ st, f sg st = .ok (.str w) st) {v : D} (hv : w = "add" ∧ v = a ∨ w = "clear" ∧ v = b ∨ w = "drop" ∧ v = c) :
    fDget (fDisp [((fC (.str "add")), A), ((fC (.str "clear")), B), ((fC (.str "drop")), C)]) f sg st = .ok v (st ++ [.dict [(.inr "add", a), (.inr "clear", b), (.inr "drop", c)]]) := by
  have d := disp3 ha hb hc
  have hs : (st ++ [SO.dict [(.inr "add", a), (.inr "clear", b), (.inr "drop", c)]])[st.length]? = some (SO.dict [(.inr "add", a), (.inr "clear", b), (.inr "drop", c)]) := by rw [List.getElem?_append_right (Nat.le_refl _), Nat.sub_self]; rfl
  obtain ⟨n1, n2, n3, n4, n5, n6⟩ := w_ne
  generalize fDisp [((fC (.str "add")), A), ((fC (.str "clear")), B), ((fC (.str "drop")), C)] = FD at *
  generalize st ++ [SO.dict [(.inr "add", a), (.inr "clear", b), (.inr "drop", c)]] = S at *
  rcases hv with ⟨rfl, rfl⟩ | ⟨rfl, rfl⟩ | ⟨rfl, rfl⟩ <;> simp -implicitDefEqProofs [d, hf, hs, dKey, kvS, getD, n1, n2, n3, n4, n5, n6]
theorem deeds_law (n : Nat) (hn : n ≤ 13) (st : Sto) : bStr [.int n] st = .ok (.str (tx n)) st ∧ (("deeds " : Str)).length + (tx (n : Int)).length ≤ 16777216 := by
  have lg : (n : Int).natAbs.log2 < 64 := tx_log (Nat.lt_of_le_of_lt (show (n : Int).natAbs ≤ 13 by omega) (by decide))
  have lg : (n : Int).natAbs.log2 < 1920 := Nat.lt_trans lg (by decide)
  have tl : (tx (n : Int)).length ≤ 100 := tx_len (Nat.lt_of_le_of_lt (show (n : Int).natAbs ≤ 13 by omega) (by decide))
  have k1 : (("deeds " : Str)).length = 6 := rfl
  constructor
  · unfold tx
    generalize (n : Int) = N at *
    simp -implicitDefEqProofs [bStr, lg]
  · omega
theorem cut_d (ds : List Dd) (n : Nat) : cutD (ds.map Dd.d) none (some (n : Int)) = (ds.take n).map Dd.d ∧ cutD (ds.map Dd.d) (some ((n : Int) + 1)) none = (ds.drop (n + 1)).map Dd.d := by
  constructor
  · rw [List.map_take, cut_take]
  · rw [List.map_drop, show (n : Int) + 1 = ((n + 1 : Nat) : Int) from by omega, cut_drop]
theorem ent_add {row : List Dd} {x : Dd} {sg : Sg} (hl : row.length ≤ 12) (h1 : sg[1]? = some (some (rT row))) (h4 : sg[4]? = some (some x.d)) (st : Sto) : (fBin dAdd (fVar 1) (fTup (aCons (fVar 4) aNil))) sg st = .ok (rT (row ++ [x])) st := by
  have e : rT (row ++ [x]) = .tup (row.map Dd.d ++ [x.d]) := by unfold rT; rw [List.map_append]; rfl
  have h1 : sg[1]? = some (some (.tup (row.map Dd.d))) := h1
  have z : (row.map Dd.d).length + 1 ≤ 16777216 := by rw [List.length_map]; omega
  rw [e]
  clear e
  generalize row.map Dd.d = RD at *
  generalize x.d = XD at *
  simp -implicitDefEqProofs [h1, h4, z]
theorem ent_drop {row : List Dd} {n : Nat} {sg : Sg} (hl : row.length ≤ 12) (hn : n < 1000) (h1 : sg[1]? = some (some (rT row))) (h3 : sg[3]? = some (some (.int n))) (st : Sto) : (fBin dAdd (fSl dSl (fVar 1) oNone (oSome (fVar 3))) (fSl dSl (fVar 1) (oSome (fBin dAdd (fVar 3) (fC (.int 1)))) oNone)) sg st = .ok (rT (cutN n row)) st := by
  have e : rT (cutN n row) = .tup ((row.take n).map Dd.d ++ (row.drop (n + 1)).map Dd.d) := by unfold rT cutN; rw [List.map_append]
  have h1 : sg[1]? = some (some (.tup (row.map Dd.d))) := h1
  have z : ((row.take n).map Dd.d).length + ((row.drop (n + 1)).map Dd.d).length ≤ 16777216 := by rw [List.length_map, List.length_map, List.length_take, List.length_drop]; omega
  obtain ⟨c1, c2⟩ := cut_d row n
  have bn : -4611686018427387904 ≤ (n : Int) ∧ (n : Int) < 4611686018427387904 := by omega
  rw [e]
  clear e hn
  generalize (row.take n).map Dd.d = R1 at *
  generalize (row.drop (n + 1)).map Dd.d = R2 at *
  generalize row.map Dd.d = RD at *
  generalize (n : Int) = N at *
  simp -implicitDefEqProofs [h1, h3, c1, c2, z]
theorem due_gen {G : EF} {BL BS : FF} {w : Str} {lp : Nat} {RW RT x : D} {n NL RN : Int} {st S1 S2 : Sto} {T DS : Str} {l : List D} (h : st[lp]? = some (.lst l)) (e2 : mApp (.loc lp) [RW] st = .ok .non S1)
    (g3 : G [some (.loc lp), some RW, some (.str w), some (.int n), some x, none] S1 = .ok RT S2) (bl : BL [RT] S2 = .ok (.int RN) S2) (blr : ∀ S, BL [RW] S = .ok (.int NL) S) (b1 : BS [.int RN] S2 = .ok (.str T) S2) (b2 : (("deeds " : Str)).length + T.length ≤ 16777216) (b3 : ("deeds " : Str) ++ T = DS)
    (hw : w = "add" ∧ ¬ NL = 12 ∨ w = "clear" ∨ w = "drop" ∧ ¬ NL ≤ n) :
    fnF 6 (sSeq (sIf (tAnd' (tOfE (fBin dEq (fVar 2) (fC (.str "add")))) (tOfE (fBin dEq (fCall BL (aCons (fVar 1) aNil)) (fC (.int 12))))) (sRet (fTup (aCons (fLst (aCons (fC (.str "room")) aNil)) (aCons (fVar 1) aNil)))) sNil) (sSeq (sIf (tAnd' (tOfE (fBin dEq (fVar 2) (fC (.str "drop")))) (tOfE (fBin dGe (fVar 3) (fCall BL (aCons (fVar 1) aNil))))) (sRet (fTup (aCons (fLst (aCons (fC (.str "deed")) (aCons (fVar 3) aNil))) (aCons (fVar 1) aNil)))) sNil) (sSeq (sIf (tAnd' (tOfE (fBin dEq (fVar 2) (fC (.str "undo")))) (tOfE (fBin dEqE (fVar 0) (fLst aNil)))) (sRet (fTup (aCons (fLst (aCons (fC (.str "undo")) aNil)) (aCons (fVar 1) aNil)))) sNil) (sSeq (sIf (tOfE (fBin dEq (fVar 2) (fC (.str "undo")))) (sRet (fTup (aCons (fC (.str "undone")) (aCons (fBM "list" mPop (fVar 0) aNil) aNil)))) sNil) (sSeq (sIf (tOfE (fBin dEq (fVar 2) (fC (.str "show")))) (sRet (fTup (aCons (fIfE (tOfE (fBin dNe (fVar 1) (fTup aNil))) (fCall (cF F_law_text 1 []) (aCons (fVar 1) aNil)) (fC (.str "nothing"))) (aCons (fVar 1) aNil)))) sNil) (sSeq (sDrop (fBM "list" mApp (fVar 0) (aCons (fVar 1) aNil))) (sSeq (sSet 5 G) (sRet (fTup (aCons (fBin dAdd (fC (.str "deeds ")) (fCall BS (aCons (fCall BL (aCons (fVar 5) aNil)) aNil))) (aCons (fVar 5) aNil)))))))))))
      [.loc lp, RW, .str w, .int n, x] st = .ok (.tup [.str DS, RT]) S2 := by
  rcases hw with ⟨rfl, q⟩ | rfl | ⟨rfl, q⟩ <;> subst b3 <;> simp -implicitDefEqProofs [*]
theorem due_turn {lp : Nat} {row : List Dd} {rows : List (List Dd)} {w : Str} {n : Nat} {x : Dd} {st : Sto} {r : List Dd} (h : st[lp]? = some (.lst (rows.map rT))) (hr : rows.length < 10000000) (hl : row.length ≤ 12) (hn : n < 1000)
    (hw : w = "add" ∧ r = row ++ [x] ∧ row.length < 12 ∨ w = "clear" ∧ r = [] ∨ w = "drop" ∧ r = cutN n row ∧ n < row.length) :
    ∃ o, F_law_due [.loc lp, rT row, .str w, .int n, x.d] st = .ok (.tup [.str (deedsS r.length), rT r]) (st.set lp (.lst ((rows ++ [row]).map rT)) ++ [.dict o]) := by
  have rl : r.length ≤ 13 := by
    rcases hw with ⟨_, rfl, _⟩ | ⟨_, rfl⟩ | ⟨_, rfl, _⟩
    · rw [List.length_append]; show row.length + 1 ≤ 13; omega
    · simp
    · have := cutN_len (n := n) hl; omega
  have e2 : mApp (.loc lp) [rT row] st = .ok .non (st.set lp (.lst ((rows ++ [row]).map rT))) := by
    unfold mApp
    simp only [h]
    rw [if_pos (by rw [List.length_map]; omega), List.map_append]
    rfl
  have g3 := get3 (A := (fBin dAdd (fVar 1) (fTup (aCons (fVar 4) aNil)))) (B := (fTup aNil)) (C := (fBin dAdd (fSl dSl (fVar 1) oNone (oSome (fVar 3))) (fSl dSl (fVar 1) (oSome (fBin dAdd (fVar 3) (fC (.int 1)))) oNone))) (f := fVar 2) (a := rT (row ++ [x])) (b := rT []) (c := rT (cutN n row)) (sg := [some (.loc lp), some (rT row), some (.str w), some (.int n), some x.d, none]) (st := st.set lp (.lst ((rows ++ [row]).map rT))) (w := w) (v := rT r)
    (fun q => ent_add hl rfl rfl _) (fun q => by simp -implicitDefEqProofs [rT]) (fun q => ent_drop hl hn rfl rfl _) (fun st => by simp -implicitDefEqProofs)
    (by
      rcases hw with ⟨rfl, rfl, _⟩ | ⟨rfl, rfl⟩ | ⟨rfl, rfl, _⟩
      · exact .inl ⟨rfl, rfl⟩
      · exact .inr (.inl ⟨rfl, rfl⟩)
      · exact .inr (.inr ⟨rfl, rfl⟩))
  obtain ⟨b1, b2⟩ := deeds_law r.length rl (st.set lp (.lst ((rows ++ [row]).map rT)) ++ [.dict [(.inr "add", rT (row ++ [x])), (.inr "clear", rT []), (.inr "drop", rT (cutN n row))]])
  have blen : ∀ (r : List Dd) S, r.length ≤ 13 → bLen [rT r] S = .ok (.int r.length) S := fun r S hr => by
    have lr : (r.map Dd.d).length = r.length := List.length_map _
    unfold rT
    generalize r.map Dd.d = RR at *
    simp -implicitDefEqProofs [lr]
    try omega
  exact ⟨_, due_gen (NL := (row.length : Int)) h e2 g3 (blen r _ rl) (fun S => blen row S (by omega)) b1 b2 rfl (by
    rcases hw with ⟨rfl, _, q⟩ | ⟨rfl, _⟩ | ⟨rfl, _, q⟩
    · exact .inl ⟨rfl, by omega⟩
    · exact .inr (.inl rfl)
    · exact .inr (.inr ⟨rfl, by omega⟩))⟩
end Law
/-! k80: one order at the desk and here -/
namespace Law
open PySem Sh
structure Inv80 (d lp n : Nat) (t : Int) (k : Dk) (rows : List (List Dd)) (st : Sto) : Prop where
  at_ : k.At d st
  lps : st[lp]? = some (.lst (rows.map rT))
  cor : k.ps.map Prod.fst = rows.map fun r => ⟨r, []⟩
  kp : k.now.kp = []
  ne : lp ≠ k.pa
  np : n ≠ k.pa
  nl : n ≠ lp
  pot : Pot st n t
theorem Dk.At.lst_ne {k : Dk} {d x : Nat} {st : Sto} {l : List D} (h : k.At d st) (hx : st[x]? = some (.lst l)) : x ≠ d ∧ x ≠ k.sh := by
  refine ⟨fun e => ?_, fun e => ?_⟩
  · rw [e, h.ins] at hx; cases hx
  · rw [e, h.shl] at hx; cases hx
theorem Dk.Chg.lst {k : Dk} {d x : Nat} {st st' : Sto} {l : List D} (c : k.Chg d st st') (h : k.At d st) (hx : st[x]? = some (.lst l)) (hp : x ≠ k.pa) : st'[x]? = st[x]? := by
  obtain ⟨a, b⟩ := h.lst_ne hx
  exact c.oth x (lt_of hx) a hp b
theorem Pot.lst {st : Sto} {n : Nat} {t : Int} (h : Pot st n t) : ∃ l, st[n]? = some (.lst l) := by
  obtain ⟨p, c, u, h1, _⟩ := h
  exact ⟨_, h1⟩
theorem Pot.cg {st st' : Sto} {n : Nat} {t : Int} (h : Pot st n t) (e : st'[n]? = st[n]?) : Pot st' n t := by
  obtain ⟨p, c, u, h1, h2⟩ := h
  exact ⟨p, c, u, e.trans h1, h2⟩
theorem due_keep {k : Dk} {d lp : Nat} {st : Sto} {l : List D} (h : k.At d st) (hl : st[lp]? = some (.lst l)) (hp : lp ≠ k.pa) (o : SO) (r : Sto) : k.At d (st.set lp o ++ r) := h.keep fun x hx hh => by
  have ne : x ≠ lp := fun e => by
    subst e
    rcases hh with hh | ⟨l, hh⟩ | hh
    · rw [hl] at hh; cases hh
    · rw [hl] at hh; cases hh
    · exact hp hh
  rw [List.getElem?_append_left (by simp; exact hx), List.getElem?_set_ne (Ne.symm ne)]
/-- what is told may be compared -/
def Cp (v : D) : Prop := (∀ S, dNe v v S = .ok (.bl false) S) ∧ ∃ b, ∀ S, bIsi (tbl tStr) [] v S = .ok (.bl b) S
theorem cp_str (x : Str) : Cp (.str x) := ⟨fun S => by
  rw [dNe_py _ rfl rfl (by simp [dep])]
  simp, true, fun _ => rfl⟩
theorem cp_one (x : Str) : Cp (.lst [.str x]) := ⟨fun S => by
  rw [dNe_py _ rfl rfl (by simp [dep])]
  simp, false, fun _ => rfl⟩
theorem cp_two (x : Str) (i : Int) : Cp (.lst [.str x, .int i]) := ⟨fun S => by
  rw [dNe_py _ rfl rfl (by simp [dep])]
  simp, false, fun _ => rfl⟩
/-- the order's text -/
def txtW (w : Str) (m : Nat) (x : Dd) : Str := if w = "add" then ("add " : Str) ++ x.s else if w = "drop" then ("drop " : Str) ++ tx m else w
theorem txt_add (m : Nat) (x : Dd) : txtW "add" m x = ("add " : Str) ++ x.s := if_pos rfl
theorem txt_drop (m : Nat) (x : Dd) : txtW "drop" m x = ("drop " : Str) ++ tx m := by unfold txtW; rw [if_neg (by decide), if_pos rfl]
theorem txt_show (m : Nat) (x : Dd) : txtW "show" m x = "show" := by unfold txtW; rw [if_neg (by decide), if_neg (by decide)]
theorem txt_undo (m : Nat) (x : Dd) : txtW "undo" m x = "undo" := by unfold txtW; rw [if_neg (by decide), if_neg (by decide)]
theorem txt_clear (m : Nat) (x : Dd) : txtW "clear" m x = "clear" := by unfold txtW; rw [if_neg (by decide), if_neg (by decide)]
theorem Inv80.rn {d lp n : Nat} {t : Int} {k : Dk} {rows : List (List Dd)} {st : Sto} (h : Inv80 d lp n t k rows st) : k.ps.length = rows.length := by
  have := congrArg List.length h.cor
  simpa using this
/-- both turned to r -/
theorem both_turn {d lp n : Nat} {t : Int} {k : Dk} {rows : List (List Dd)} {st : Sto} (h : Inv80 d lp n t k rows st) (hr : rows.length < 1000000) {w : Str} {m : Nat} (hm : m < 100) {x : Dd} {r : List Dd} {y : Str}
    (hw : w = "add" ∧ r = k.now.row ++ [x] ∧ k.now.row.length < 12 ∨ w = "clear" ∧ r = [] ∨ w = "drop" ∧ r = cutN m k.now.row ∧ m < k.now.row.length)
    (ho : ∀ st1, k.At d st1 → ∃ (q : Nat) (st2 : Sto), F_Desk_order [.loc d, .str y] st1 = .ok (.str (deedsS r.length)) st2 ∧ (k.turn r q).At d st2 ∧ k.Chg d st1 st2) :
    ∃ (v : D) (st1 st2 : Sto) (k' : Dk) (rows' : List (List Dd)), F_law_due [.loc lp, rT k.now.row, .str w, .int m, x.d] st = .ok (.tup [v, rT k'.now.row]) st1 ∧ F_law_told [.loc d, .str y] st1 = .ok v st2 ∧ st.length ≤ st1.length ∧ (∀ (z : Nat) (l : List (L2.Key × D)), st[z]? = some (SO.dict l) → st1[z]? = some (SO.dict l)) ∧ Inv80 d lp n t k' rows' st2 ∧ rows'.length ≤ rows.length + 1 ∧ Cp v ∧ k'.pa = k.pa ∧ st.length ≤ st2.length := by
  obtain ⟨o, e1⟩ := due_turn (w := w) (n := m) (x := x) (r := r) h.lps (by omega) h.at_.ok.2.1 (by omega) hw
  have a1 := due_keep h.at_ h.lps h.ne (.lst ((rows ++ [k.now.row]).map rT)) [.dict o]
  obtain ⟨q, st2, e2, a2, c2⟩ := ho _ a1
  obtain ⟨lp0, hp0⟩ := h.pot.lst
  have g1 : (st.set lp (.lst ((rows ++ [k.now.row]).map rT)) ++ [SO.dict o])[lp]? = some (.lst ((rows ++ [k.now.row]).map rT)) := by
    rw [List.getElem?_append_left (by simp; exact lt_of h.lps), List.getElem?_set_self (lt_of h.lps)]
  have g2 : (st.set lp (.lst ((rows ++ [k.now.row]).map rT)) ++ [SO.dict o])[n]? = st[n]? := by
    rw [List.getElem?_append_left (by simp; exact lt_of hp0), List.getElem?_set_ne (Ne.symm h.nl)]
  have g3 := c2.lst a1 g1 h.ne
  have g4 := c2.lst a1 (g2.trans hp0) h.np
  have tk := told_ok e2 a1.is
  refine ⟨.str (deedsS r.length), _, st2, k.turn r q, rows ++ [k.now.row], e1, tk, by simp, fun z l hz => ?_, ⟨a2, g3.trans g1, ?_, h.kp, h.ne, h.np, h.nl, h.pot.cg (g4.trans g2)⟩, by simp, cp_str _, rfl, Nat.le_trans (by simp) c2.len⟩
  · rw [List.getElem?_append_left (by simp; exact lt_of hz), List.getElem?_set_ne (fun e => by subst e; rw [h.lps] at hz; cases hz)]
    exact hz
  · show (k.ps ++ [(k.now, q)]).map Prod.fst = _
    rw [List.map_append, List.map_append, h.cor]
    have : k.now = ⟨k.now.row, []⟩ := by
      have := h.kp
      cases hk : k.now with
      | mk a b => rw [hk] at this; simp only at this; rw [this]
    show _ ++ [k.now] = _ ++ [(⟨k.now.row, []⟩ : Sn)]
    rw [← this]
/-- an order that changes nothing here -/
theorem both_stay {d lp n : Nat} {t : Int} {k : Dk} {rows : List (List Dd)} {st : Sto} (h : Inv80 d lp n t k rows st) {w y : Str} {m : Nat} {x : Dd} {v : D} (e1 : F_law_due [.loc lp, rT k.now.row, .str w, .int m, x.d] st = .ok (.tup [v, rT k.now.row]) st) (e2 : F_law_told [.loc d, .str y] st = .ok v st) (hv : Cp v) :
    ∃ (v : D) (st1 st2 : Sto) (k' : Dk) (rows' : List (List Dd)), F_law_due [.loc lp, rT k.now.row, .str w, .int m, x.d] st = .ok (.tup [v, rT k'.now.row]) st1 ∧ F_law_told [.loc d, .str y] st1 = .ok v st2 ∧ st.length ≤ st1.length ∧ (∀ (z : Nat) (l : List (L2.Key × D)), st[z]? = some (SO.dict l) → st1[z]? = some (SO.dict l)) ∧ Inv80 d lp n t k' rows' st2 ∧ rows'.length ≤ rows.length + 1 ∧ Cp v ∧ k'.pa = k.pa ∧ st.length ≤ st2.length :=
  ⟨v, st, st, k, rows, e1, e2, Nat.le_refl _, fun _ _ z => z, h, by omega, hv, rfl, Nat.le_refl _⟩
theorem act_ok {d lp n : Nat} {t : Int} {k : Dk} {rows : List (List Dd)} {st : Sto} (h : Inv80 d lp n t k rows st) (hr : rows.length < 1000000) {w : Str} (hw : w = "add" ∨ w = "drop" ∨ w = "show" ∨ w = "undo" ∨ w = "clear") {m : Nat} (hm : m < 100) {x : Dd} (hx : x.ok) :
    ∃ (v : D) (st1 st2 : Sto) (k' : Dk) (rows' : List (List Dd)), F_law_due [.loc lp, rT k.now.row, .str w, .int m, x.d] st = .ok (.tup [v, rT k'.now.row]) st1 ∧ F_law_told [.loc d, .str (txtW w m x)] st1 = .ok v st2 ∧ st.length ≤ st1.length ∧ (∀ (z : Nat) (l : List (L2.Key × D)), st[z]? = some (SO.dict l) → st1[z]? = some (SO.dict l)) ∧ Inv80 d lp n t k' rows' st2 ∧ rows'.length ≤ rows.length + 1 ∧ Cp v ∧ k'.pa = k.pa ∧ st.length ≤ st2.length := by
  have rn := h.rn
  have hl := h.at_.ok.2.1
  rcases hw with rfl | rfl | rfl | rfl | rfl
  · rw [txt_add]
    by_cases c : k.now.row.length = 12
    · exact both_stay h (due_room c) (told_room (order_add_full h.at_ hx c) h.at_.is) (cp_one _)
    · exact both_turn h hr hm (r := k.now.row ++ [x]) (.inl ⟨rfl, rfl, by omega⟩) fun st1 a1 => by
        obtain ⟨q, st2, e, a, c⟩ := order_add a1 (by omega) hx (by omega)
        refine ⟨q, st2, ?_, a, c⟩
        rw [e, List.length_append]
        rfl
  · rw [txt_drop]
    by_cases c : m < k.now.row.length
    · exact both_turn h hr hm (x := x) (r := cutN m k.now.row) (.inr (.inr ⟨rfl, rfl, c⟩)) fun st1 a1 => order_drop a1 (by omega) hm c
    · exact both_stay h (due_deed (by omega) hl) (told_deed (order_drop_no h.at_ hm (by omega)) h.at_.is) (cp_two _ _)
  · rw [txt_show]
    exact both_stay h (due_show h.at_.ok.1 hl) (told_ok (order_show h.at_) h.at_.is) (cp_str _)
  · rw [txt_undo]
    rcases List.eq_nil_or_concat rows with hc | ⟨rs, r, hc⟩
    · subst hc
      have pn : k.ps = [] := List.eq_nil_of_length_eq_zero rn
      exact both_stay h (due_undo_no h.lps) (told_undo (order_undo_no h.at_ pn) h.at_.is) (cp_one _)
    · rw [List.concat_eq_append] at hc
      subst hc
      rcases List.eq_nil_or_concat k.ps with hp | ⟨qs, sq, hp⟩
      · rw [hp] at rn; simp at rn
      · rw [List.concat_eq_append] at hp
        obtain ⟨s, q⟩ := sq
        have cor := h.cor
        rw [hp, List.map_append, List.map_append] at cor
        obtain ⟨cor1, cor2⟩ := List.append_inj' cor rfl
        have es : s = ⟨r, []⟩ := by simpa using cor2
        have e1 := due_undo (row := k.now.row) (n := m) (x := x.d) h.lps
        have a1 := due_keep h.at_ h.lps h.ne (.lst (rs.map rT)) []
        rw [List.append_nil] at a1
        obtain ⟨st2, e2, a2, c2⟩ := order_undo a1 hp
        obtain ⟨lp0, hp0⟩ := h.pot.lst
        have g1 : (st.set lp (.lst (rs.map rT)))[lp]? = some (.lst (rs.map rT)) := List.getElem?_set_self (lt_of h.lps)
        have g2 : (st.set lp (.lst (rs.map rT)))[n]? = st[n]? := List.getElem?_set_ne (Ne.symm h.nl)
        have g3 := c2.lst a1 g1 h.ne
        have g4 := c2.lst a1 (g2.trans hp0) h.np
        refine ⟨.str "undone", _, st2, k.back s q qs, rs, ?_, told_ok e2 a1.is, by simp, fun z l hz => ?_, ⟨a2, g3.trans g1, cor1, ?_, h.ne, h.np, h.nl, h.pot.cg (g4.trans g2)⟩, by simp; omega, cp_str _, rfl, Nat.le_trans (by simp) c2.len⟩
        · rw [e1]
          show _ = Res.ok (D.tup [.str "undone", rT s.row]) _
          rw [es]
        · rw [List.getElem?_set_ne (fun e => by subst e; rw [h.lps] at hz; cases hz)]
          exact hz
        · show s.kp = []
          rw [es]
  · rw [txt_clear]
    exact both_turn h hr hm (x := x) (r := []) (.inr (.inl ⟨rfl, rfl⟩)) fun st1 a1 => order_clear a1 (by omega)
end Law
/-! k80: one lap -/
namespace Law
open PySem Sh
theorem Inv80.draw {d lp n : Nat} {t t' : Int} {k : Dk} {rows : List (List Dd)} {st st' : Sto} (h : Inv80 d lp n t k rows st) (w : Drw n t' st st') : Inv80 d lp n t' k rows st' := by
  obtain ⟨l, hp⟩ := h.pot.lst
  refine ⟨h.at_.keep fun x hx hh => w.oth x fun e => ?_, by rw [w.oth _ (Ne.symm h.nl)]; exact h.lps, h.cor, h.kp, h.ne, h.np, h.nl, w.pot⟩
  subst e
  rcases hh with hh | ⟨l, hh⟩ | hh
  · rw [hp] at hh; cases hh
  · rw [hp] at hh; cases hh
  · exact h.np hh
theorem Inv80.grow {d lp n : Nat} {t : Int} {k : Dk} {rows : List (List Dd)} {st : Sto} (h : Inv80 d lp n t k rows st) (r : Sto) : Inv80 d lp n t k rows (st ++ r) :=
  ⟨h.at_.grow r, by rw [List.getElem?_append_left (lt_of h.lps)]; exact h.lps, h.cor, h.kp, h.ne, h.np, h.nl, h.pot.append r⟩
def ws80 : List Str := ["add", "add", "add", "add", "drop", "drop", "show", "undo", "undo", "clear"]
def Way (w : Str) : Prop := w = "add" ∨ w = "drop" ∨ w = "show" ∨ w = "undo" ∨ w = "clear"
theorem way_at {r : Int} (h0 : 0 ≤ r) (h1 : r < 10) : ∃ w, Way w ∧ ∀ S, dIx (.lst (ws80.map D.str)) (.int r) S = .ok (.str w) S := by
  have e : ∀ w, (ws80.map D.str)[r.toNat]? = some (.str w) → ∀ S, dIx (.lst (ws80.map D.str)) (.int r) S = .ok (.str w) S := fun w h S => by
    obtain ⟨gl, ge⟩ := List.getElem?_eq_some_iff.mp h
    have l10 : (ws80.map D.str).length = 10 := rfl
    have r10 : r < 10 := h1
    generalize ws80.map D.str = L at *
    have gl2 : r < (L.length : Int) := by rw [l10]; omega
    simp -implicitDefEqProofs [h0, gl, gl2, ge]
  have hr : r = 0 ∨ r = 1 ∨ r = 2 ∨ r = 3 ∨ r = 4 ∨ r = 5 ∨ r = 6 ∨ r = 7 ∨ r = 8 ∨ r = 9 := by omega
  rcases hr with rfl | rfl | rfl | rfl | rfl | rfl | rfl | rfl | rfl | rfl
  · exact ⟨"add", .inl rfl, e _ rfl⟩
  · exact ⟨"add", .inl rfl, e _ rfl⟩
  · exact ⟨"add", .inl rfl, e _ rfl⟩
  · exact ⟨"add", .inl rfl, e _ rfl⟩
  · exact ⟨"drop", .inr (.inl rfl), e _ rfl⟩
  · exact ⟨"drop", .inr (.inl rfl), e _ rfl⟩
  · exact ⟨"show", .inr (.inr (.inl rfl)), e _ rfl⟩
  · exact ⟨"undo", .inr (.inr (.inr (.inl rfl))), e _ rfl⟩
  · exact ⟨"undo", .inr (.inr (.inr (.inl rfl))), e _ rfl⟩
  · exact ⟨"clear", .inr (.inr (.inr (.inr rfl))), e _ rfl⟩
noncomputable def A80 : EF := (fBin dIx (fLst (aCons (fC (.str "add")) (aCons (fC (.str "add")) (aCons (fC (.str "add")) (aCons (fC (.str "add")) (aCons (fC (.str "drop")) (aCons (fC (.str "drop")) (aCons (fC (.str "show")) (aCons (fC (.str "undo")) (aCons (fC (.str "undo")) (aCons (fC (.str "clear")) aNil))))))))))) (fCall (cF F_law_dip 2 []) (aCons (fVar 5) (aCons (fC (.int 10)) aNil))))
noncomputable def B80 : SF := (sIf (tAnd' (tOfE (fBin dEq (fVar 7) (fC (.str "clear")))) (tOfE (fBin dGt (fCall (cF F_law_dip 2 []) (aCons (fVar 5) (aCons (fC (.int 3)) aNil))) (fC (.int 0))))) (sSet 7 (fC (.str "add"))) sNil)
noncomputable def C80 : AF := (aCons (fCall (cF F_law_dip 2 []) (aCons (fVar 5) (aCons (fBin dIx (fLst (aCons (fBin dAdd (fCall bLen (aCons (fVar 2) aNil)) (fC (.int 1))) (aCons (fC (.int 100)) aNil))) (fCall bInt (aCons (fBin dEq (fCall (cF F_law_dip 2 []) (aCons (fVar 5) (aCons (fC (.int 8)) aNil))) (fC (.int 0))) aNil))) aNil))) (aCons (fCall (cF F_law_deed 1 []) (aCons (fVar 5) aNil)) aNil))
noncomputable def D80 : EF := (fDisp [((fC (.str "add")), (fBin dAdd (fC (.str "add ")) (fCall (cF F_law_line 1 []) (aCons (fVar 9) aNil)))), ((fC (.str "drop")), (fBin dAdd (fC (.str "drop ")) (fCall bStr (aCons (fVar 8) aNil))))])
noncomputable def E80 : EF := (fCall (cF F_law_due 5 []) (aCons (fVar 3) (aCons (fVar 2) (aCons (fVar 7) (aCons (fVar 8) (aCons (fVar 9) aNil))))))
noncomputable def F80 : EF := (fCall (cF F_law_told 2 []) (aCons (fVar 1) (aCons (fGet2 (fVar 10) (fVar 7) (fVar 7)) aNil)))
noncomputable def G80 : SF := (sIf (tOr' (tOfE (fBin dNe (fVar 12) (fVar 11))) (tOfE (fBin dNe (fIsi (tbl tStr) [] (fVar 12)) (fIsi (tbl tStr) [] (fVar 11))))) (sRet (fC (.bl false))) sNil)
theorem b80_eq (sg : Sg) (st : Sto) : b_law_0 sg st = sSeq (sSet 7 A80) (sSeq B80 (sSeq (sPar 8 9 C80) (sSeq (sSet 10 D80) (sSeq (sAsg (.many [11, 2]) E80) (sSeq (sSet 12 F80) G80))))) sg st := rfl
section
variable {d lp n : Nat} {x0 x1 x2 x3 x4 x6 x7 x8 x9 x10 x11 x12 x13 : Option D} {st : Sto} {t : Int}
theorem a80_ok (hp : Pot st n t) (ht : t < 2 ^ 40) : ∃ w s1, Way w ∧ A80 [x0, x1, x2, x3, x4, some (.loc n), x6, x7, x8, x9, x10, x11, x12, x13] st = .ok (.str w) s1 ∧ Drw n (t + 1) st s1 := by
  obtain ⟨r, s1, e, r0, r1, d1⟩ := dip_dr (m := 10) hp (by omega) (by decide) (by decide)
  obtain ⟨w, hw, hi⟩ := way_at r0 r1
  refine ⟨w, s1, hw, ?_, d1⟩
  unfold A80
  have hi : ∀ S, dIx (.lst [.str "add", .str "add", .str "add", .str "add", .str "drop", .str "drop", .str "show", .str "undo", .str "undo", .str "clear"]) (.int r) S = .ok (.str w) S := hi
  simp -implicitDefEqProofs [-ev_dIx, e, hi]
theorem b80_ok {w : Str} (hw : Way w) (hp : Pot st n t) (ht : t < 2 ^ 40) : ∃ w' s1, Way w' ∧ B80 [x0, x1, x2, x3, x4, some (.loc n), x6, some (.str w), x8, x9, x10, x11, x12, x13] st = .nx [x0, x1, x2, x3, x4, some (.loc n), x6, some (.str w'), x8, x9, x10, x11, x12, x13] s1 ∧ Drw n (t + 1) st s1 := by
  obtain ⟨r, s1, e, r0, r1, d1⟩ := dip_dr (m := 3) hp (by omega) (by decide) (by decide)
  by_cases c : w = "clear"
  · subst c
    by_cases c : r > 0
    · refine ⟨"add", s1, .inl rfl, ?_, d1⟩
      unfold B80
      simp -implicitDefEqProofs [e, c]
    · refine ⟨"clear", s1, hw, ?_, d1⟩
      unfold B80
      simp -implicitDefEqProofs [e, c]
  · refine ⟨w, st, hw, ?_, (Drw.refl hp).le (by omega)⟩
    have : (w == ("clear" : Str)) = false := by simpa using c
    unfold B80
    simp -implicitDefEqProofs [this]
theorem c80_ok {row : List Dd} (hl : row.length ≤ 12) (hp : Pot st n t) (ht : t < 2 ^ 40) : ∃ (m : Nat) (x : Dd) (s1 : Sto), m < 100 ∧ x.ok ∧ C80 [x0, x1, some (rT row), x3, x4, some (.loc n), x6, x7, x8, x9, x10, x11, x12, x13] st = .ok [.int m, x.d] s1 ∧ Drw n (t + 60) st s1 := by
  obtain ⟨r, s1, e, r0, r1, d1⟩ := dip_dr (m := 8) hp (by omega) (by decide) (by decide)
  obtain ⟨q, s2, e2, q0, q1, d2⟩ := dip_dr (m := if r = 0 then 100 else (row.length : Int) + 1) d1.pot (by omega) (by split <;> omega) (by split <;> omega)
  obtain ⟨x, s3, e3, hx, d3⟩ := deed_dr d2.pot (by omega)
  obtain ⟨m, rfl⟩ := Int.eq_ofNat_of_zero_le q0
  refine ⟨m, x, s3, ?_, hx, ?_, ((d1.trans d2).trans d3).le (by omega)⟩
  · split at q1 <;> omega
  have bl : ∀ S, bLen [rT row] S = .ok (.int row.length) S := fun S => by
    have lr : (row.map Dd.d).length = row.length := List.length_map _
    unfold rT
    generalize row.map Dd.d = RR at *
    simp -implicitDefEqProofs [lr]
    try omega
  have l0 : ∀ (a b : D) S, dIx (.lst [a, b]) (.int 0) S = .ok a S := fun a b S => by simp -implicitDefEqProofs
  have l1 : ∀ (a b : D) S, dIx (.lst [a, b]) (.int 1) S = .ok b S := fun a b S => by simp -implicitDefEqProofs
  unfold C80
  generalize bLen = BL at bl ⊢
  generalize rT row = RW at *
  generalize (row.length : Int) = NL at *
  by_cases c : r = 0
  · subst c
    have e2 : F_law_dip [.loc n, .int 100] s1 = .ok (.int m) s2 := e2
    simp -implicitDefEqProofs [-ev_dIx, bl, e, l0, l1, e2, e3]
  · rw [if_neg c] at e2
    have cb : (r == 0) = false := by simpa using c
    simp -implicitDefEqProofs [-ev_dIx, bl, e, l0, l1, e2, e3, c, cb]
end
end Law
/-! k80: one lap, the rest of it -/
namespace Law
open PySem Sh
def Wds (m : Nat) (x : Dd) : List (L2.Key × D) := [(.inr "add", .str (("add " : Str) ++ x.s)), (.inr "drop", .str (("drop " : Str) ++ tx m))]
theorem w_ad : (Str.ofString "add" = Str.ofString "drop") = False ∧ (Str.ofString "drop" = Str.ofString "add") = False := by
  refine ⟨?_, ?_⟩ <;> exact eq_false (by decide)
theorem w_ws : ((Str.ofString "add" = Str.ofString "show") = False ∧ (Str.ofString "drop" = Str.ofString "show") = False) ∧ ((Str.ofString "add" = Str.ofString "undo") = False ∧ (Str.ofString "drop" = Str.ofString "undo") = False) ∧ ((Str.ofString "add" = Str.ofString "clear") = False ∧ (Str.ofString "drop" = Str.ofString "clear") = False) := by
  refine ⟨⟨?_, ?_⟩, ⟨?_, ?_⟩, ⟨?_, ?_⟩⟩ <;> exact eq_false (by decide)
theorem w_sw : ((Str.ofString "show" = Str.ofString "add") = False ∧ (Str.ofString "show" = Str.ofString "drop") = False) ∧ ((Str.ofString "undo" = Str.ofString "add") = False ∧ (Str.ofString "undo" = Str.ofString "drop") = False) ∧ ((Str.ofString "clear" = Str.ofString "add") = False ∧ (Str.ofString "clear" = Str.ofString "drop") = False) := by
  refine ⟨⟨?_, ?_⟩, ⟨?_, ?_⟩, ⟨?_, ?_⟩⟩ <;> exact eq_false (by decide)
theorem m80_ok {m : Nat} (hm : m < 100) (st : Sto) : bStr [.int m] st = .ok (.str (tx m)) st ∧ (tx (m : Int)).length ≤ 100 := by
  have lg : (m : Int).natAbs.log2 < 64 := tx_log (Nat.lt_of_le_of_lt (show (m : Int).natAbs ≤ 100 by omega) (by decide))
  have lg : (m : Int).natAbs.log2 < 1920 := Nat.lt_trans lg (by decide)
  have tl : (tx (m : Int)).length ≤ 100 := tx_len (Nat.lt_of_le_of_lt (show (m : Int).natAbs ≤ 100 by omega) (by decide))
  refine ⟨?_, tl⟩
  unfold tx
  generalize (m : Int) = N at *
  simp -implicitDefEqProofs [bStr, lg]
section
variable {d lp n : Nat} {x0 x2 x4 x6 x7 x10 x11 x12 x13 : Option D} {st : Sto} {t : Int} {m : Nat} {x : Dd}
theorem d80_ok {x1 x3 x5 : Option D} (hm : m < 100) (hx : x.ok) : D80 [x0, x1, x2, x3, x4, x5, x6, x7, some (.int m), some x.d, x10, x11, x12, x13] st = .ok (.loc st.length) (st ++ [.dict (Wds m x)]) := by
  have e1 := fun st => deed_line hx st
  have e2 := fun st => (m80_ok hm st).1
  have l1 := Dd.s_len hx
  have l2 := (m80_ok hm st).2
  have k1 : (("add " : Str)).length = 4 := rfl
  have k2 : (("drop " : Str)).length = 5 := rfl
  have z1 : (("add " : Str)).length + x.s.length ≤ 16777216 := by omega
  have z2 : (("drop " : Str)).length + (tx (m : Int)).length ≤ 16777216 := by omega
  obtain ⟨n1, n2⟩ := w_ad
  unfold D80 Wds
  generalize x.s = XS at *
  generalize x.d = XD at *
  generalize tx (m : Int) = TM at *
  generalize (m : Int) = N at *
  generalize bStr = BS at *
  simp -implicitDefEqProofs [fDisp, dispF, fPairs, mergeD, putD, dKey, e1, e2, z1, z2, n1, n2]
theorem f80_ok {x3 x5 x8 x9 : Option D} {p : Nat} {w : Str} (hw : Way w) {v : D} {s1 : Sto} (hp : st[p]? = some (.dict (Wds m x))) (e : F_law_told [.loc d, .str (txtW w m x)] st = .ok v s1) : F80 [x0, some (.loc d), x2, x3, x4, x5, x6, some (.str w), x8, x9, some (.loc p), x11, x12, x13] st = .ok v s1 := by
  obtain ⟨n1, n2⟩ := w_ad
  obtain ⟨⟨a1, a2⟩, ⟨a3, a4⟩, a5, a6⟩ := w_ws
  obtain ⟨⟨b1, b2⟩, ⟨b3, b4⟩, b5, b6⟩ := w_sw
  unfold F80
  unfold Wds at hp
  rcases hw with rfl | rfl | rfl | rfl | rfl
  · rw [txt_add] at e
    generalize ("add " : Str) ++ x.s = A at *
    generalize ("drop " : Str) ++ tx m = B at *
    simp -implicitDefEqProofs [isDict, dGet, dKey, kvS, getD, hp, e, n1, n2]
  · rw [txt_drop] at e
    generalize ("add " : Str) ++ x.s = A at *
    generalize ("drop " : Str) ++ tx m = B at *
    simp -implicitDefEqProofs [isDict, dGet, dKey, kvS, getD, hp, e, n1, n2]
  · rw [txt_show] at e
    generalize ("add " : Str) ++ x.s = A at *
    generalize ("drop " : Str) ++ tx m = B at *
    simp -implicitDefEqProofs [isDict, dGet, dKey, kvS, getD, hp, e, a1, a2, b1, b2]
  · rw [txt_undo] at e
    generalize ("add " : Str) ++ x.s = A at *
    generalize ("drop " : Str) ++ tx m = B at *
    simp -implicitDefEqProofs [isDict, dGet, dKey, kvS, getD, hp, e, a3, a4, b3, b4]
  · rw [txt_clear] at e
    generalize ("add " : Str) ++ x.s = A at *
    generalize ("drop " : Str) ++ tx m = B at *
    simp -implicitDefEqProofs [isDict, dGet, dKey, kvS, getD, hp, e, a5, a6, b5, b6]
theorem g80_ok {x1 x3 x5 x8 x9 : Option D} {v : D} (hv : Cp v) : G80 [x0, x1, x2, x3, x4, x5, x6, x7, x8, x9, x10, some v, some v, x13] st = .nx [x0, x1, x2, x3, x4, x5, x6, x7, x8, x9, x10, some v, some v, x13] st := by
  obtain ⟨e1, b, e2⟩ := hv
  have e3 : ∀ S, dNe (.bl b) (.bl b) S = .ok (.bl false) S := fun S => by cases b <;> rfl
  unfold G80
  simp -implicitDefEqProofs [e1, e2, e3]
end
end Law
/-! k80: laps, cells, the law -/
namespace Law
open PySem Sh
theorem sq_nx {f g : SF} {sg sg1 : Sg} {st st1 : Sto} (h : f sg st = .nx sg1 st1) : sSeq f g sg st = g sg1 st1 := by
  simp -implicitDefEqProofs [h]
theorem lap80 {d lp n : Nat} {x0 x4 x6 x7 x8 x9 x10 x11 x12 x13 : Option D} {k : Dk} {rows : List (List Dd)} {st : Sto} {t : Int} (h : Inv80 d lp n t k rows st) (hr : rows.length < 1000000) (ht : t < 2 ^ 39) :
    ∃ (k' : Dk) (rows' : List (List Dd)) (st' : Sto) (y7 y8 y9 y10 y11 y12 : Option D), b_law_0 [x0, some (.loc d), some (rT k.now.row), some (.loc lp), x4, some (.loc n), x6, x7, x8, x9, x10, x11, x12, x13] st = .nx [x0, some (.loc d), some (rT k'.now.row), some (.loc lp), x4, some (.loc n), x6, y7, y8, y9, y10, y11, y12, x13] st' ∧ Inv80 d lp n (t + 70) k' rows' st' ∧ rows'.length ≤ rows.length + 1 ∧ st.length ≤ st'.length := by
  obtain ⟨w0, s1, hw0, ha, d1⟩ := a80_ok (x0 := x0) (x1 := some (.loc d)) (x2 := some (rT k.now.row)) (x3 := some (.loc lp)) (x4 := x4) (x6 := x6) (x7 := x7) (x8 := x8) (x9 := x9) (x10 := x10) (x11 := x11) (x12 := x12) (x13 := x13) h.pot (by omega)
  have h1 := h.draw d1
  obtain ⟨w, s2, hw, hb, d2⟩ := b80_ok (x0 := x0) (x1 := some (.loc d)) (x2 := some (rT k.now.row)) (x3 := some (.loc lp)) (x4 := x4) (x6 := x6) (x8 := x8) (x9 := x9) (x10 := x10) (x11 := x11) (x12 := x12) (x13 := x13) hw0 h1.pot (by omega)
  have h2 := h1.draw d2
  obtain ⟨m, x, s3, hm, hx, hc, d3⟩ := c80_ok (x0 := x0) (x1 := some (.loc d)) (x3 := some (.loc lp)) (x4 := x4) (x6 := x6) (x7 := some (.str w)) (x8 := x8) (x9 := x9) (x10 := x10) (x11 := x11) (x12 := x12) (x13 := x13) h2.at_.ok.2.1 h2.pot (by omega)
  have h3 := h2.draw d3
  have hd := d80_ok (x0 := x0) (x1 := some (.loc d)) (x2 := some (rT k.now.row)) (x3 := some (.loc lp)) (x4 := x4) (x5 := some (.loc n)) (x6 := x6) (x7 := some (.str w)) (x10 := x10) (x11 := x11) (x12 := x12) (x13 := x13) (st := s3) hm hx
  have h4 := h3.grow [.dict (Wds m x)]
  obtain ⟨v, s5, s6, k', rows', he, hf, l5, ds, h6, rl, hv, _, l6⟩ := act_ok h4 hr hw hm hx
  have hp : s5[s3.length]? = some (SO.dict (Wds m x)) := ds _ _ (by rw [List.getElem?_append_right (Nat.le_refl _), Nat.sub_self]; rfl)
  have hf := f80_ok (x0 := x0) (x2 := some (rT k'.now.row)) (x3 := some (.loc lp)) (x4 := x4) (x5 := some (.loc n)) (x6 := x6) (x8 := some (.int m)) (x9 := some x.d) (x11 := some v) (x12 := x12) (x13 := x13) hw hp hf
  have hg := g80_ok (x0 := x0) (x1 := some (.loc d)) (x2 := some (rT k'.now.row)) (x3 := some (.loc lp)) (x4 := x4) (x5 := some (.loc n)) (x6 := x6) (x7 := some (.str w)) (x8 := some (.int m)) (x9 := some x.d) (x10 := some (.loc s3.length)) (x13 := x13) (st := s6) hv
  have he : E80 [x0, some (.loc d), some (rT k.now.row), some (.loc lp), x4, some (.loc n), x6, some (.str w), some (.int m), some x.d, some (.loc s3.length), x11, x12, x13] (s3 ++ [.dict (Wds m x)]) = .ok (.tup [v, rT k'.now.row]) s5 := by
    unfold E80
    generalize rT k.now.row = R1 at *
    generalize rT k'.now.row = R2 at *
    generalize x.d = XD at *
    generalize (m : Int) = N at *
    simp -implicitDefEqProofs [he]
  refine ⟨k', rows', s6, some (.str w), some (.int m), some x.d, some (.loc s3.length), some v, some v, ?_, ⟨h6.at_, h6.lps, h6.cor, h6.kp, h6.ne, h6.np, h6.nl, h6.pot.le (by omega)⟩, rl, ?_⟩
  · rw [b80_eq]
    generalize rT k.now.row = R1 at *
    generalize rT k'.now.row = R2 at *
    generalize x.d = XD at *
    generalize (m : Int) = N at *
    simp -implicitDefEqProofs [ha, hb, hc, hd, he, hf, hg]
  · have a1 := d1.len
    have a2 := d2.len
    have a3 := d3.len
    have : (s3 ++ [SO.dict (Wds m x)]).length = s3.length + 1 := by simp
    omega
structure J80 (d lp : Nat) (k : Dk) (rows : List (List Dd)) (st : Sto) : Prop where
  at_ : k.At d st
  lps : st[lp]? = some (.lst (rows.map rT))
  cor : k.ps.map Prod.fst = rows.map fun r => ⟨r, []⟩
  kp : k.now.kp = []
  ne : lp ≠ k.pa
theorem cell80 {l : List Int} {d lp i : Nat} {x5 x6 x7 x8 x9 x10 x11 x12 x13 : Option D} {k : Dk} {rows : List (List Dd)} {st : Sto} (hi : i < 64) (h : J80 d lp k rows st) (hr : rows.length < 1000) :
    ∃ (n' : Nat) (k' : Dk) (rows' : List (List Dd)) (st' : Sto) (y6 y7 y8 y9 y10 y11 y12 : Option D), b_law_1 [some (.scr l), some (.loc d), some (rT k.now.row), some (.loc lp), some (.int i), x5, x6, x7, x8, x9, x10, x11, x12, x13] st = .nx [some (.scr l), some (.loc d), some (rT k'.now.row), some (.loc lp), some (.int i), some (.loc n'), y6, y7, y8, y9, y10, y11, y12, x13] st' ∧ J80 d lp k' rows' st' ∧ rows'.length ≤ rows.length + 3 := by
  obtain ⟨o, e1, p1⟩ := pot_ok l i st hi
  have h1 : Inv80 d lp st.length 0 k rows (st ++ [o]) := by
    have a1 := lt_of h.at_.pst
    have a2 := lt_of h.lps
    exact ⟨h.at_.grow [o], by rw [List.getElem?_append_left a2]; exact h.lps, h.cor, h.kp, h.ne, by omega, by omega, p1⟩
  obtain ⟨r, s1, e2, r0, r1, d1⟩ := dip_dr (m := 3) p1 (by omega) (by decide) (by decide)
  have h2 := h1.draw d1
  obtain ⟨m, hm⟩ := Int.eq_ofNat_of_zero_le r0
  have hm3 : m < 3 := by omega
  obtain ⟨sg', st', e, ⟨k', rows', y6, y7, y8, y9, y10, y11, y12, rfl, h', rl⟩⟩ := for_toN (ck := fun _ => True) (t := .one 6) (g := b_law_0) (l := rngD 0 (1 + m)) (sg := [some (.scr l), some (.loc d), some (rT k.now.row), some (.loc lp), some (.int i), some (.loc st.length), x6, x7, x8, x9, x10, x11, x12, x13]) (st := s1)
    (fun j sg st' => ∃ (k' : Dk) (rows' : List (List Dd)) (y6 y7 y8 y9 y10 y11 y12 : Option D), sg = [some (.scr l), some (.loc d), some (rT k'.now.row), some (.loc lp), some (.int i), some (.loc st.length), y6, y7, y8, y9, y10, y11, y12, x13] ∧ Inv80 d lp st.length (1 + 70 * j) k' rows' st' ∧ rows'.length ≤ rows.length + j)
    ⟨k, rows, _, _, _, _, _, _, _, rfl, by simpa using h2, by omega⟩ (fun _ _ _ _ => trivial) fun j v sg S hd ⟨k', rows', y6, y7, y8, y9, y10, y11, y12, hsg, h', rl⟩ => by
      subst hsg
      have hj : j < 1 + m := by
        have := (List.getElem?_eq_some_iff.mp hd).1
        simpa [rngD] using this
      obtain ⟨k2, rows2, s2, z7, z8, z9, z10, z11, z12, el, h2', rl2, _⟩ := lap80 (x0 := some (.scr l)) (x4 := some (.int i)) (x6 := some v) (x7 := y7) (x8 := y8) (x9 := y9) (x10 := y10) (x11 := y11) (x12 := y12) (x13 := x13) h' (by omega) (by omega)
      refine ⟨_, rfl, ?_⟩
      have el : b_law_0 [some (.scr l), some (.loc d), some (rT k'.now.row), some (.loc lp), some (.int i), some (.loc st.length), some v, y7, y8, y9, y10, y11, y12, x13] S = _ := el
      show (b_law_0 [some (.scr l), some (.loc d), some (rT k'.now.row), some (.loc lp), some (.int i), some (.loc st.length), some v, y7, y8, y9, y10, y11, y12, x13] S).to _
      rw [el]
      exact ⟨k2, rows2, _, _, _, _, _, _, _, rfl, (show (1 + 70 * ((j + 1 : Nat) : Int)) = (1 + 70 * (j : Int)) + 70 by omega) ▸ h2', by omega⟩
  refine ⟨st.length, k', rows', st', y6, y7, y8, y9, y10, y11, y12, ?_, ⟨h'.at_, h'.lps, h'.cor, h'.kp, h'.ne⟩, by rw [rng_len] at rl; omega⟩
  rw [at_b_law_1]
  subst hm
  generalize rT k.now.row = R1 at *
  generalize rT k'.now.row = R2 at *
  have e2 : F_law_dip [.loc st.length, .int 3] (st ++ [o]) = .ok (.int (m : Int)) s1 := e2
  have er : ∀ y6 : Option D, iRange1 (aCons (fBin dAdd (fC (.int 1)) (fCall (cF F_law_dip 2 []) (aCons (fVar 5) (aCons (fC (.int 3)) aNil)))) aNil) [some (.scr l), some (.loc d), some R1, some (.loc lp), some (.int i), some (.loc st.length), y6, x7, x8, x9, x10, x11, x12, x13] (st ++ [o]) = .ok ⟨rngD 0 (1 + m), fun _ => True⟩ s1 := fun y6 => by
    have z : (1 + (m : Int)).toNat = 1 + m := by omega
    simp -implicitDefEqProofs [e2, z]
    try omega
  simp -implicitDefEqProofs [-iRange1, e1, er, e]
theorem pick80 {row : List Dd} (hok : Oks row) (hl : row.length ≤ 12) {x0 x1 x3 x4 x5 x6 x7 x8 x9 x10 x11 x12 x13 : Option D} (st : Sto) : fIfE (tOfE (fBin dNe (fVar 2) (fTup aNil))) (fCall (cF F_law_text 1 []) (aCons (fVar 2) aNil)) (fC (.str "nothing")) [x0, x1, some (rT row), x3, x4, x5, x6, x7, x8, x9, x10, x11, x12, x13] st = .ok (.str (showS row)) st := by
  have lt : F_law_text [rT row] st = .ok (.str (planS row)) st := law_text hok (by omega) st
  unfold showS
  by_cases c : row = []
  · rw [if_pos c]
    subst c
    have ne : ∀ S, dNe (rT []) (.tup []) S = .ok (.bl false) S := fun S => by
      rw [dNe_py _ rfl rfl (by simp [dep, rT])]
      rfl
    generalize rT [] = R at *
    simp -implicitDefEqProofs [ne]
  · rw [if_neg c]
    have ne : ∀ S, dNe (rT row) (.tup []) S = .ok (.bl true) S := fun S => by
      rw [dNe_py _ (by show pys (row.map Dd.d) = true; exact py_dds row) rfl (by have := dep_dds row; simp [dep, rT])]
      cases row with
      | nil => exact absurd rfl c
      | cons a b => rfl
    generalize planS row = PS at *
    generalize rT row = R at *
    simp -implicitDefEqProofs [ne, lt]
theorem end80 {d lp : Nat} {x0 x4 x5 x6 x7 x8 x9 x10 x11 x12 x13 : Option D} {k : Dk} {st : Sto} (h : k.At d st) : ∃ st' : Sto, (sSeq (sSet 13 (fIfE (tOfE (fBin dNe (fVar 2) (fTup aNil))) (fCall (cF F_law_text 1 []) (aCons (fVar 2) aNil)) (fC (.str "nothing")))) (sRet (fAnd (fBin dEq (fMeth 7 F_Desk_order 2 [] (fVar 1) (aCons (fC (.str "show")) aNil)) (fVar 13)) (fAnd (fBin dEq (fMethK 7 (cK F_Desk_order 2 1 1 [(0, 0), (2, 0)] []) (fVar 1) (aCons (fC (.str "show")) aNil)) (fVar 13)) (fBin dEq (fMeth 7 F_Desk_order 2 [] (fCall (mkL 7 F_Desk_init 1 []) aNil) (aCons (fC (.str "show")) aNil)) (fC (.str "nothing"))))))) [x0, some (.loc d), some (rT k.now.row), some (.loc lp), x4, x5, x6, x7, x8, x9, x10, x11, x12, x13] st = .ret (.bl true) st' := by
  have e1 := pick80 h.ok.1 h.ok.2.1 (x0 := x0) (x1 := some (.loc d)) (x3 := some (.loc lp)) (x4 := x4) (x5 := x5) (x6 := x6) (x7 := x7) (x8 := x8) (x9 := x9) (x10 := x10) (x11 := x11) (x12 := x12) (x13 := x13) st
  have e2 := order_show h
  obtain ⟨l, hl⟩ := h.is
  obtain ⟨k', e3, a3, kn, _⟩ := desk_new st
  have e4 := order_show a3
  rw [kn] at e4
  have e4 : F_Desk_order [.loc st.length, .str "show"] _ = .ok (.str "nothing") _ := e4
  have q : ∀ (x : Str) S, dEq (.str x) (.str x) S = .ok (.bl true) S := fun x S => by
    rw [dEq_py _ rfl rfl (by simp [dep])]
    simp
  have hl3 : ((st ++ [SO.ins 7 [planD [], .loc (st.length + 1), .loc (st.length + 2)], .dict [], .lst []])[st.length]? : Option SO) = some (.ins 7 [planD [], .loc (st.length + 1), .loc (st.length + 2)]) := by
    rw [List.getElem?_append_right (Nat.le_refl _), Nat.sub_self]; rfl
  refine ⟨st ++ [SO.ins 7 [planD [], .loc (st.length + 1), .loc (st.length + 2)], .dict [], .lst []], ?_⟩
  generalize showS k.now.row = SH at *
  generalize rT k.now.row = R1 at *
  generalize fIfE (tOfE (fBin dNe (fVar 2) (fTup aNil))) (fCall (cF F_law_text 1 []) (aCons (fVar 2) aNil)) (fC (.str "nothing")) = PK at *
  generalize planD [] = P0 at *
  generalize mkL 7 F_Desk_init 1 [] = MK at *
  generalize st ++ [SO.ins 7 [P0, .loc (st.length + 1), .loc (st.length + 2)], .dict [], .lst []] = S9 at *
  simp -implicitDefEqProofs [e1, e2, e3, e4, hl, hl3, q, cK, pick]
theorem law_true (l : List Int) (hl : l.length ≤ 63) : ∃ st, Sh.fnF Law.law_N.length Law.g_law [.scr l] [] = .ok (.bl true) st := by
  obtain ⟨k, e0, a0, kn, kp⟩ := desk_new []
  have e0 : mkL 7 F_Desk_init 1 [] [] [] = .ok (.loc 0) [.ins 7 [planD [], .loc 1, .loc 2], .dict [], .lst []] := e0
  have a0 : k.At 0 [.ins 7 [planD [], .loc 1, .loc 2], .dict [], .lst []] := a0
  have pa2 : k.pa = 2 := by
    have z : [SO.ins 7 [planD [], .loc 1, .loc 2], .dict [], .lst []][0]? = some (SO.ins 7 [planD [], .loc 1, .loc 2]) := rfl
    have y := Option.some.inj (a0.ins.symm.trans z)
    injection y with _ y
    injection y with _ y
    injection y with _ y
    injection y with y _
    injection y with y
  have j0 : J80 0 3 k [] ([.ins 7 [planD [], .loc 1, .loc 2], .dict [], .lst []] ++ [.lst []]) :=
    ⟨a0.grow _, rfl, by rw [kp]; rfl, by rw [kn], by omega⟩
  have r0 : rT k.now.row = .tup [] := by rw [kn]; rfl
  obtain ⟨m, hm, em⟩ := law_rng (l := l) (n := 63) (sg := [some (.scr l), some (.loc 0), some (.tup []), some (.loc 3), none, none, none, none, none, none, none, none, none, none]) (st := [.ins 7 [planD [], .loc 1, .loc 2], .dict [], .lst []] ++ [.lst []]) rfl (by decide) (by decide)
  obtain ⟨sg', st', e, ⟨k', rows', y4, y5, y6, y7, y8, y9, y10, y11, y12, rfl, h', rl⟩⟩ := for_toN (ck := fun _ => True) (t := .one 4) (g := b_law_1) (l := rngD 0 m) (sg := [some (.scr l), some (.loc 0), some (.tup []), some (.loc 3), none, none, none, none, none, none, none, none, none, none]) (st := [.ins 7 [planD [], .loc 1, .loc 2], .dict [], .lst []] ++ [.lst []])
    (fun j sg st' => ∃ (k' : Dk) (rows' : List (List Dd)) (y4 y5 y6 y7 y8 y9 y10 y11 y12 : Option D), sg = [some (.scr l), some (.loc 0), some (rT k'.now.row), some (.loc 3), y4, y5, y6, y7, y8, y9, y10, y11, y12, none] ∧ J80 0 3 k' rows' st' ∧ rows'.length ≤ 3 * j)
    ⟨k, [], _, _, _, _, _, _, _, _, _, by rw [r0], j0, by simp⟩ (fun _ _ _ _ => trivial) fun j v sg S hd ⟨k', rows', y4, y5, y6, y7, y8, y9, y10, y11, y12, hsg, h', rl⟩ => by
      subst hsg
      have hd' : v = .int j ∧ j < m := by
        unfold rngD at hd
        rw [List.getElem?_map] at hd
        obtain ⟨j, hj, rfl⟩ := Option.map_eq_some_iff.mp hd
        have := List.getElem?_eq_some_iff.mp hj
        obtain ⟨hlt, hj2⟩ := this
        simp at hj2 hlt
        subst hj2
        exact ⟨by simp, hlt⟩
      obtain ⟨rfl, hj⟩ := hd'
      obtain ⟨n2, k2, rows2, s2, z6, z7, z8, z9, z10, z11, z12, el, h2', rl2⟩ := cell80 (l := l) (i := j) (x5 := y5) (x6 := y6) (x7 := y7) (x8 := y8) (x9 := y9) (x10 := y10) (x11 := y11) (x12 := y12) (x13 := none) (by omega) h' (by omega)
      refine ⟨_, rfl, ?_⟩
      show (b_law_1 [some (.scr l), some (.loc 0), some (rT k'.now.row), some (.loc 3), some (.int j), y5, y6, y7, y8, y9, y10, y11, y12, none] S).to _
      rw [el]
      exact ⟨k2, rows2, _, _, _, _, _, _, _, _, _, rfl, h2', by omega⟩
  obtain ⟨st9, en⟩ := end80 (lp := 3) (x0 := some (.scr l)) (x4 := y4) (x5 := y5) (x6 := y6) (x7 := y7) (x8 := y8) (x9 := y9) (x10 := y10) (x11 := y11) (x12 := y12) (x13 := none) h'.at_
  refine ⟨st9, ?_⟩
  simp only [g_law, law_N]
  generalize (sSeq (sSet 13 (fIfE (tOfE (fBin dNe (fVar 2) (fTup aNil))) (fCall (cF F_law_text 1 []) (aCons (fVar 2) aNil)) (fC (.str "nothing")))) (sRet (fAnd (fBin dEq (fMeth 7 F_Desk_order 2 [] (fVar 1) (aCons (fC (.str "show")) aNil)) (fVar 13)) (fAnd (fBin dEq (fMethK 7 (cK F_Desk_order 2 1 1 [(0, 0), (2, 0)] []) (fVar 1) (aCons (fC (.str "show")) aNil)) (fVar 13)) (fBin dEq (fMeth 7 F_Desk_order 2 [] (fCall (mkL 7 F_Desk_init 1 []) aNil) (aCons (fC (.str "show")) aNil)) (fC (.str "nothing"))))))) = TAIL at *
  generalize rT k'.now.row = R1 at *
  generalize planD [] = P0 at *
  generalize mkL 7 F_Desk_init 1 [] = MK at *
  simp only [List.cons_append, List.nil_append] at em e
  simp -implicitDefEqProofs [-iRange1, e0, em, e, en]
end Law
namespace Law
open PySem L2 Sh He
structure Txt (K : PySem.W.Frag) (mg : Str → Option Value) : Prop where
  n_tuple : mg "tuple" = none
  n_isinstance : mg "isinstance" = none
  ox_NoDeed : OexK K (ga K "NoDeed") (ma K (ga K "NoDeed") "__init__")
  na_NoDeed_index : NoAttr K (ga K "NoDeed") "index"
  d_NoDeed_init : ∃ fd, FunD K "__init__" "NoDeed.__init__" (defArgs s_NoDeed_init) (defBody s_NoDeed_init) (defScope s_NoDeed_init) [] [] (ma K (ga K "NoDeed") "__init__") fd
  m_NoDeed : mg "NoDeed" = some (.ref (ga K "NoDeed"))
  n_enumerate : mg "enumerate" = none
  g_MOST_DEEDS : ∃ t, mg "MOST_DEEDS" = some (.int (12) t)
  n_len : mg "len" = none
  n_str : mg "str" = none
  n_int : mg "int" = none
  n_bool : mg "bool" = none
  d_is_whole : ∃ fd, FunD K "is_whole" "is_whole" (defArgs s_is_whole) (defBody s_is_whole) (defScope s_is_whole) [] [] (ga K "is_whole") fd
  m_is_whole : mg "is_whole" = some (.ref (ga K "is_whole"))
  d_is_length : ∃ fd, FunD K "is_length" "is_length" (defArgs s_is_length) (defBody s_is_length) (defScope s_is_length) [] [] (ga K "is_length") fd
  g_GREATEST_PULL : ∃ t, mg "GREATEST_PULL" = some (.int (40) t)
  m_is_length : mg "is_length" = some (.ref (ga K "is_length"))
  gt_WINDOWS : tupB K "WINDOWS" [.str "near", .str "far"] = true
  m_WINDOWS : mg "WINDOWS" = some (.ref (ga K "WINDOWS"))
  d_is_window : ∃ fd, FunD K "is_window" "is_window" (defArgs s_is_window) (defBody s_is_window) (defScope s_is_window) [] [] (ga K "is_window") fd
  m_is_window : mg "is_window" = some (.ref (ga K "is_window"))
  g_LONGEST_THING : ∃ t, mg "LONGEST_THING" = some (.int (8) t)
  g_LETTERS : ∃ t, mg "LETTERS" = some (.str "abcdefghijklmnopqrstuvwxyz" t)
  n_all : mg "all" = none
  d_is_thing : ∃ fd, FunD K "is_thing" "is_thing" (defArgs s_is_thing) (defBody s_is_thing) (defScope s_is_thing) [] [] (ga K "is_thing") fd
  m_is_thing : mg "is_thing" = some (.ref (ga K "is_thing"))
  g_GREATEST_STEP : ∃ t, mg "GREATEST_STEP" = some (.int (6) t)
  d_is_plain_deed : ∃ fd, FunD K "is_plain_deed" "is_plain_deed" (defArgs s_is_plain_deed) (defBody s_is_plain_deed) (defScope s_is_plain_deed) [] [] (ga K "is_plain_deed") fd
  m_is_plain_deed : mg "is_plain_deed" = some (.ref (ga K "is_plain_deed"))
  d_is_deed : ∃ fd, FunD K "is_deed" "is_deed" (defArgs s_is_deed) (defBody s_is_deed) (defScope s_is_deed) [] [] (ga K "is_deed") fd
  m_is_deed : mg "is_deed" = some (.ref (ga K "is_deed"))
  m_Plan : mg "Plan" = some (.ref (ga K "Plan"))
  cl_Plan : Cls K (ga K "Plan")
  na_Plan_kept : NoAttr K (ga K "Plan") "kept"
  nd_Plan_init_0 : nilB (dflAt ("Plan", some "__init__") 0) K = true
  d_Plan_init : ∃ fd, FunD K "__init__" "Plan.__init__" (defArgs s_Plan_init) (defBody s_Plan_init) (defScope s_Plan_init) [V.ref (dflAt ("Plan", some "__init__") 0 K)] [] (ma K (ga K "Plan") "__init__") fd
  mk_Plan : Mk K (ga K "Plan") (ma K (ga K "Plan") "__init__")
  m_Desk : mg "Desk" = some (.ref (ga K "Desk"))
  cl_Desk : Cls K (ga K "Desk")
  na_Desk_sheet : NoAttr K (ga K "Desk") "sheet"
  na_Desk_shelf : NoAttr K (ga K "Desk") "shelf"
  na_Desk_past : NoAttr K (ga K "Desk") "past"
  d_Desk_init : ∃ fd, FunD K "__init__" "Desk.__init__" (defArgs s_Desk_init) (defBody s_Desk_init) (defScope s_Desk_init) [] [] (ma K (ga K "Desk") "__init__") fd
  mk_Desk : Mk K (ga K "Desk") (ma K (ga K "Desk") "__init__")
  n_min : mg "min" = none
  n_max : mg "max" = none
  n_range : mg "range" = none
  n_abs : mg "abs" = none
  d_law_pot : ∃ fd, FunD K "_law_pot" "_law_pot" (defArgs s_law_pot) (defBody s_law_pot) (defScope s_law_pot) [] [] (ga K "_law_pot") fd
  m_law_pot : mg "_law_pot" = some (.ref (ga K "_law_pot"))
  d_law_dip : ∃ fd, FunD K "_law_dip" "_law_dip" (defArgs s_law_dip) (defBody s_law_dip) (defScope s_law_dip) [] [] (ga K "_law_dip") fd
  m_law_dip : mg "_law_dip" = some (.ref (ga K "_law_dip"))
  d_law_thing : ∃ fd, FunD K "_law_thing" "_law_thing" (defArgs s_law_thing) (defBody s_law_thing) (defScope s_law_thing) [] [] (ga K "_law_thing") fd
  m_law_thing : mg "_law_thing" = some (.ref (ga K "_law_thing"))
  d_law_plain : ∃ fd, FunD K "_law_plain" "_law_plain" (defArgs s_law_plain) (defBody s_law_plain) (defScope s_law_plain) [] [] (ga K "_law_plain") fd
  m_law_plain : mg "_law_plain" = some (.ref (ga K "_law_plain"))
  d_law_deed : ∃ fd, FunD K "_law_deed" "_law_deed" (defArgs s_law_deed) (defBody s_law_deed) (defScope s_law_deed) [] [] (ga K "_law_deed") fd
  m_law_deed : mg "_law_deed" = some (.ref (ga K "_law_deed"))
  m_law_line : mg "_law_line" = some (.ref (ga K "_law_line"))
  d_law_line : ∃ fd, FunD K "_law_line" "_law_line" (defArgs s_law_line) (defBody s_law_line) (defScope s_law_line) [] [] (ga K "_law_line") fd
  d_law_text : ∃ fd, FunD K "_law_text" "_law_text" (defArgs s_law_text) (defBody s_law_text) (defScope s_law_text) [] [] (ga K "_law_text") fd
  m_law_text : mg "_law_text" = some (.ref (ga K "_law_text"))
  d_law_due : ∃ fd, FunD K "_law_due" "_law_due" (defArgs s_law_due) (defBody s_law_due) (defScope s_law_due) [] [] (ga K "_law_due") fd
  m_law_due : mg "_law_due" = some (.ref (ga K "_law_due"))
  m_NoOrder : mg "NoOrder" = some (.ref (ga K "NoOrder"))
  x_NoOrder : bExc "NoOrder" K = true
  n_dict : mg "dict" = none
  d_Desk_remember : ∃ fd, FunD K "remember" "Desk.remember" (defArgs s_Desk_remember) (defBody s_Desk_remember) (defScope s_Desk_remember) [] [] (ma K (ga K "Desk") "remember") fd
  me_Desk_remember : Meth K (ga K "Desk") "remember" (ma K (ga K "Desk") "remember")
  d_Plan_len : ∃ fd, FunD K "__len__" "Plan.__len__" (defArgs s_Plan_len) (defBody s_Plan_len) (defScope s_Plan_len) [] [] (ma K (ga K "Plan") "__len__") fd
  me_Plan_len : Meth K (ga K "Plan") "__len__" (ma K (ga K "Plan") "__len__")
  d_Desk_turn_to : ∃ fd, FunD K "turn_to" "Desk.turn_to" (defArgs s_Desk_turn_to) (defBody s_Desk_turn_to) (defScope s_Desk_turn_to) [] [] (ma K (ga K "Desk") "turn_to") fd
  me_Desk_turn_to : Meth K (ga K "Desk") "turn_to" (ma K (ga K "Desk") "turn_to")
  d_Plan_deeds : ∃ fd, FunD K "deeds" "Plan.deeds" (defArgs s_Plan_deeds) (defBody s_Plan_deeds) (defScope s_Plan_deeds) [] [] (ma K (ga K "Plan") "deeds") fd
  me_Plan_deeds : Meth K (ga K "Plan") "deeds" (ma K (ga K "Plan") "deeds")
  m_deed_text : mg "deed_text" = some (.ref (ga K "deed_text"))
  d_deed_text : ∃ fd, FunD K "deed_text" "deed_text" (defArgs s_deed_text) (defBody s_deed_text) (defScope s_deed_text) [] [] (ga K "deed_text") fd
  d_plan_text : ∃ fd, FunD K "plan_text" "plan_text" (defArgs s_plan_text) (defBody s_plan_text) (defScope s_plan_text) [] [] (ga K "plan_text") fd
  m_plan_text : mg "plan_text" = some (.ref (ga K "plan_text"))
  m_NothingToUndo : mg "NothingToUndo" = some (.ref (ga K "NothingToUndo"))
  x_NothingToUndo : bExc "NothingToUndo" K = true
  d_Desk_undo : ∃ fd, FunD K "undo" "Desk.undo" (defArgs s_Desk_undo) (defBody s_Desk_undo) (defScope s_Desk_undo) [] [] (ma K (ga K "Desk") "undo") fd
  me_Desk_undo : Meth K (ga K "Desk") "undo" (ma K (ga K "Desk") "undo")
  d_Desk_alone : ∃ fd, FunD K "alone" "Desk.alone" (defArgs s_Desk_alone) (defBody s_Desk_alone) (defScope s_Desk_alone) [] [] (ma K (ga K "Desk") "alone") fd
  me_Desk_alone : Meth K (ga K "Desk") "alone" (ma K (ga K "Desk") "alone")
  m_NoRoom : mg "NoRoom" = some (.ref (ga K "NoRoom"))
  x_NoRoom : bExc "NoRoom" K = true
  d_Plan_add : ∃ fd, FunD K "__add__" "Plan.__add__" (defArgs s_Plan_add) (defBody s_Plan_add) (defScope s_Plan_add) [] [] (ma K (ga K "Plan") "__add__") fd
  me_Plan_add : Meth K (ga K "Plan") "__add__" (ma K (ga K "Plan") "__add__")
  sf_Plan : PySem.W.selfFirst K (ga K "Plan") = true
  d_Desk_put_deed : ∃ fd, FunD K "put_deed" "Desk.put_deed" (defArgs s_Desk_put_deed) (defBody s_Desk_put_deed) (defScope s_Desk_put_deed) [] [] (ma K (ga K "Desk") "put_deed") fd
  d_read_number : ∃ fd, FunD K "read_number" "read_number" (defArgs s_read_number) (defBody s_read_number) (defScope s_read_number) [] [] (ga K "read_number") fd
  m_read_number : mg "read_number" = some (.ref (ga K "read_number"))
  d_read_plain : ∃ fd, FunD K "read_plain" "read_plain" (defArgs s_read_plain) (defBody s_read_plain) (defScope s_read_plain) [] [] (ga K "read_plain") fd
  m_read_plain : mg "read_plain" = some (.ref (ga K "read_plain"))
  d_read_deed : ∃ fd, FunD K "read_deed" "read_deed" (defArgs s_read_deed) (defBody s_read_deed) (defScope s_read_deed) [] [] (ga K "read_deed") fd
  m_read_deed : mg "read_deed" = some (.ref (ga K "read_deed"))
  me_Desk_put_deed : Meth K (ga K "Desk") "put_deed" (ma K (ga K "Desk") "put_deed")
  d_number_of : ∃ fd, FunD K "number_of" "number_of" (defArgs s_number_of) (defBody s_number_of) (defScope s_number_of) [] [] (ga K "number_of") fd
  g_MOST_INDEX : ∃ t, mg "MOST_INDEX" = some (.int (99) t)
  m_number_of : mg "number_of" = some (.ref (ga K "number_of"))
  d_Plan_has : ∃ fd, FunD K "has" "Plan.has" (defArgs s_Plan_has) (defBody s_Plan_has) (defScope s_Plan_has) [] [] (ma K (ga K "Plan") "has") fd
  me_Plan_has : Meth K (ga K "Plan") "has" (ma K (ga K "Plan") "has")
  d_Plan_without : ∃ fd, FunD K "without" "Plan.without" (defArgs s_Plan_without) (defBody s_Plan_without) (defScope s_Plan_without) [] [] (ma K (ga K "Plan") "without") fd
  me_Plan_without : Meth K (ga K "Plan") "without" (ma K (ga K "Plan") "without")
  d_Desk_change : ∃ fd, FunD K "change" "Desk.change" (defArgs s_Desk_change) (defBody s_Desk_change) (defScope s_Desk_change) [] [] (ma K (ga K "Desk") "change") fd
  me_Desk_change : Meth K (ga K "Desk") "change" (ma K (ga K "Desk") "change")
  d_Desk_order : ∃ fd, FunD K "order" "Desk.order" (defArgs s_Desk_order) (defBody s_Desk_order) (defScope s_Desk_order) [] [] (ma K (ga K "Desk") "order") fd
  me_Desk_order : Meth K (ga K "Desk") "order" (ma K (ga K "Desk") "order")
  xm_NothingToUndo_NoRoom : PySem.W.exmOne K (.ref (ga K "NothingToUndo")) (.ref (ga K "NoRoom")) = some false
  xm_NoOrder_NoRoom : PySem.W.exmOne K (.ref (ga K "NoOrder")) (.ref (ga K "NoRoom")) = some false
  xm_NoRoom_NoRoom : PySem.W.exmOne K (.ref (ga K "NoRoom")) (.ref (ga K "NoRoom")) = some true
  xm_NoDeed_NoRoom : PySem.W.exmOne K (.ref (ga K "NoDeed")) (.ref (ga K "NoRoom")) = some false
  xm_NothingToUndo_NoDeed : PySem.W.exmOne K (.ref (ga K "NothingToUndo")) (.ref (ga K "NoDeed")) = some false
  xm_NoOrder_NoDeed : PySem.W.exmOne K (.ref (ga K "NoOrder")) (.ref (ga K "NoDeed")) = some false
  xm_NoRoom_NoDeed : PySem.W.exmOne K (.ref (ga K "NoRoom")) (.ref (ga K "NoDeed")) = some false
  xm_NoDeed_NoDeed : PySem.W.exmOne K (.ref (ga K "NoDeed")) (.ref (ga K "NoDeed")) = some true
  xf_NoDeed : XfC K (ga K "NoDeed")
  xm_NothingToUndo_NothingToUndo : PySem.W.exmOne K (.ref (ga K "NothingToUndo")) (.ref (ga K "NothingToUndo")) = some true
  xm_NoOrder_NothingToUndo : PySem.W.exmOne K (.ref (ga K "NoOrder")) (.ref (ga K "NothingToUndo")) = some false
  xm_NoRoom_NothingToUndo : PySem.W.exmOne K (.ref (ga K "NoRoom")) (.ref (ga K "NothingToUndo")) = some false
  xm_NoDeed_NothingToUndo : PySem.W.exmOne K (.ref (ga K "NoDeed")) (.ref (ga K "NothingToUndo")) = some false
  d_law_told : ∃ fd, FunD K "_law_told" "_law_told" (defArgs s_law_told) (defBody s_law_told) (defScope s_law_told) [] [] (ga K "_law_told") fd
  m_law_told : mg "_law_told" = some (.ref (ga K "_law_told"))
  d_law : ∃ fd, FunD K "law" "law" (defArgs s_law) (defBody s_law) (defScope s_law) [] [] (ga K "law") fd
  m_law : mg "law" = some (.ref (ga K "law"))
section
variable {P : Program} {w : World} {K : PySem.W.Frag} {mg : Str → Option Value} {base : Heap}
theorem sc_NoDeed_init : FnScope ["self", "index"] ["self", "index"] (defScope s_NoDeed_init) := ⟨rfl, rfl, rfl, by decide +kernel, rfl, by decide +kernel, by decide +kernel⟩
theorem xd_NoDeed (T : Txt K mg) : XDef P w K mg base 1 (ga K "NoDeed") "index" := xdef_ok T.ox_NoDeed T.na_NoDeed_index T.d_NoDeed_init sc_NoDeed_init (fun _ _ _ _ _ _ us hl => match us, hl with | [_, _], _ => rfl) (fun _ _ _ _ _ _ => pss_one (ps_ost (pv 0) (pv 1)))
theorem sc_is_whole : FnScope ["thing"] ["thing"] (defScope s_is_whole) := ⟨rfl, rfl, rfl, by decide +kernel, rfl, by decide +kernel, by decide +kernel⟩
theorem ok_is_whole (T : Txt K mg) : DefOk P w K mg base 1 (ga K "is_whole") ["thing"] [] F_is_whole := by
  refine def_ok (N := ["thing"]) (k := 0) (g := g_is_whole) T.d_is_whole sc_is_whole (fun _ _ _ _ _ _ us hl => match us, hl with | [_], _ => rfl) ?_
  intro cdv A outer s H E hr
  exact (ss_one (ss_ret (se_and (se_isi (by rfl) T.n_isinstance (se_var (pv 0)) (pe_bltn (v := .ty "int") (by rfl) T.n_int (by decide +kernel) rfl) (.ty _) tInt_ok trivial) (se_one (se_not (se_isi (by rfl) T.n_isinstance (se_var (pv 0)) (pe_bltn (v := .ty "bool") (by rfl) T.n_bool (by decide +kernel) rfl) (.ty _) tBool_ok trivial))))))
theorem sc_is_length : FnScope ["thing", "most"] ["thing", "most"] (defScope s_is_length) := ⟨rfl, rfl, rfl, by decide +kernel, rfl, by decide +kernel, by decide +kernel⟩
theorem ok_is_length (T : Txt K mg) : DefOk P w K mg base 2 (ga K "is_length") ["thing", "most"] [] F_is_length := by
  refine def_ok (N := ["thing", "most"]) (k := 1) (g := g_is_length) T.d_is_length sc_is_length (fun _ _ _ _ _ _ us hl => match us, hl with | [_, _], _ => rfl) ?_
  intro cdv A outer s H E hr
  exact (ss_one (ss_ret (se_and (se_callD (ok_is_whole T) 0 (by simp) (fun _ _ => .nil) (hr.mono (by decide)) (takes_of rfl rfl rfl rfl) (by rfl) T.m_is_whole (sa_cons (se_var (pv 0)) sa_nil)) (se_and (se_cmp (op_neP hr.units) fits_ne (se_var (pv 0)) se_int (nomark _)) (se_one (se_chn op_le fits_cmpI op_le fits_cmpI (se_un un_neg fits_neg (se_var (pv 1))) (se_var (pv 0)) (se_var (pv 1))))))))
theorem sc_is_window : FnScope ["thing"] ["thing"] (defScope s_is_window) := ⟨rfl, rfl, rfl, by decide +kernel, rfl, by decide +kernel, by decide +kernel⟩
theorem ok_is_window (T : Txt K mg) : DefOk P w K mg base 1 (ga K "is_window") ["thing"] [] F_is_window := by
  refine def_ok (N := ["thing"]) (k := 0) (g := g_is_window) T.d_is_window sc_is_window (fun _ _ _ _ _ _ us hl => match us, hl with | [_], _ => rfl) ?_
  intro cdv A outer s H E hr
  exact (ss_one (ss_ret (se_and (se_isi (by rfl) T.n_isinstance (se_var (pv 0)) (pe_bltn (v := .ty "str") (by rfl) T.n_str (by decide +kernel) rfl) (.ty _) tStr_ok trivial) (se_one (se_cmp op_in_seq fits_inL (se_var (pv 0)) (se_gtup (ds := [.str "near", .str "far"]) (by rfl) T.m_WINDOWS T.gt_WINDOWS (fun _ _ => (.cons (.str _) (.cons (.str _) (.nil))))) (by rfl))))))
theorem sc_is_thing : FnScope ["thing", "sign"] ["thing"] (defScope s_is_thing) := ⟨rfl, rfl, rfl, by decide +kernel, rfl, by decide +kernel, by decide +kernel⟩
theorem ok_is_thing (T : Txt K mg) : DefOk P w K mg base 1 (ga K "is_thing") ["thing"] [] F_is_thing := by
  refine def_ok (N := ["thing", "sign"]) (k := 0) (g := g_is_thing) T.d_is_thing sc_is_thing (fun _ _ _ _ _ _ us hl => match us, hl with | [_], _ => rfl) ?_
  intro cdv A outer s H E hr
  exact (ss_cons (ss_if (sb_w (sw_or (sb_not (sb_tru (se_isi (by rfl) T.n_isinstance (se_var (pv 0)) (pe_bltn (v := .ty "str") (by rfl) T.n_str (by decide +kernel) rfl) (.ty _) tStr_ok trivial) (fun _ => rfl))) (sw_or1 (sb_not (sb_chn op_le fits_cmpI op_le fits_cmpI se_int (se_callB call_lenA fits_len (by rfl) T.n_len (by decide +kernel) (sa_cons (se_var (pv 0)) sa_nil)) (se_gint (by rfl) T.g_LONGEST_THING)))))) (ss_one (ss_ret se_bl)) ss_nil) (ss_one (ss_ret (se_callB (cr_all rfl) fits_all (by rfl) T.n_all (by decide +kernel) (sa_cons (se_lc (own := [("sign", 1)]) (t := (.one 1)) rfl sc_is_thing.nd (si_any (se_var (pv 0))) (blkOk_by (by rfl)) (by decide) (fun _ _ _ _ _ => (pg_name (i := 1) sc_is_thing.nd rfl (by first | exact Or.inl rfl | exact Or.inr rfl))) (fun _ _ _ _ _ => sts_nil) (fun _ _ _ _ _ => (se_cmp op_in_sign fits_inS (se_var (pv 1)) (se_gstr (by rfl) T.g_LETTERS) (by rfl))) (by intro _; rfl)) sa_nil)))))
theorem sc_is_plain_deed : FnScope ["thing"] ["thing"] (defScope s_is_plain_deed) := ⟨rfl, rfl, rfl, by decide +kernel, rfl, by decide +kernel, by decide +kernel⟩
theorem ok_is_plain_deed (T : Txt K mg) : DefOk P w K mg base 3 (ga K "is_plain_deed") ["thing"] [] F_is_plain_deed := by
  refine def_ok (N := ["thing"]) (k := 2) (g := g_is_plain_deed) T.d_is_plain_deed sc_is_plain_deed (fun _ _ _ _ _ _ us hl => match us, hl with | [_], _ => rfl) ?_
  intro cdv A outer s H E hr
  exact (ss_cons (ss_if (sb_w (sw_or (sb_not (sb_tru (se_isi (by rfl) T.n_isinstance (se_var (pv 0)) (pe_bltn (v := .ty "tuple") (by rfl) T.n_tuple (by decide +kernel) rfl) (.ty _) tTuple_ok trivial) (fun _ => rfl))) (sw_or (sb_cmp (op_eqP hr.units) fits_eq (se_var (pv 0)) (se_tup sa_nil) (nomark _)) (sw_or1 (sb_not (sb_tru (se_isi (by rfl) T.n_isinstance (se_ix (se_var (pv 0)) se_int (fun _ _ => rfl)) (pe_bltn (v := .ty "str") (by rfl) T.n_str (by decide +kernel) rfl) (.ty _) tStr_ok trivial) (fun _ => rfl))))))) (ss_one (ss_ret se_bl)) ss_nil) (ss_cons (ss_if (sb_cmp (op_eqP hr.units) fits_eq (se_ix (se_var (pv 0)) se_int (fun _ _ => rfl)) se_str (nomark _)) (ss_one (ss_ret (se_and (se_cmp (op_eqP hr.units) fits_eq (se_callB call_lenA fits_len (by rfl) T.n_len (by decide +kernel) (sa_cons (se_var (pv 0)) sa_nil)) se_int (nomark _)) (se_one (se_callD (ok_is_length T) 0 (by simp) (fun _ _ => .nil) (hr.mono (by decide)) (takes_of rfl rfl rfl rfl) (by rfl) T.m_is_length (sa_cons (se_ix (se_var (pv 0)) se_int (fun _ _ => rfl)) (sa_cons (se_gint (by rfl) T.g_GREATEST_PULL) sa_nil))))))) ss_nil) (ss_cons (ss_if (sb_w (sw_or (sb_cmp op_lt fits_cmpI (se_callB call_lenA fits_len (by rfl) T.n_len (by decide +kernel) (sa_cons (se_var (pv 0)) sa_nil)) se_int (nomark _)) (sw_or1 (sb_not (sb_tru (se_callD (ok_is_window T) 0 (by simp) (fun _ _ => .nil) (hr.mono (by decide)) (takes_of rfl rfl rfl rfl) (by rfl) T.m_is_window (sa_cons (se_ix (se_var (pv 0)) se_int (fun _ _ => rfl)) sa_nil)) (fun _ => rfl)))))) (ss_one (ss_ret se_bl)) ss_nil) (ss_cons (ss_if (sb_cmp op_in_seq fits_inL (se_ix (se_var (pv 0)) se_int (fun _ _ => rfl)) (se_tup (sa_cons se_str (sa_cons se_str sa_nil))) (by rfl)) (ss_one (ss_ret (se_cmp (op_eqP hr.units) fits_eq (se_callB call_lenA fits_len (by rfl) T.n_len (by decide +kernel) (sa_cons (se_var (pv 0)) sa_nil)) se_int (nomark _)))) ss_nil) (ss_cons (ss_if (sb_cmp op_in_seq fits_inL (se_ix (se_var (pv 0)) se_int (fun _ _ => rfl)) (se_tup (sa_cons se_str (sa_cons se_str (sa_cons se_str sa_nil)))) (by rfl)) (ss_one (ss_ret (se_and (se_cmp (op_eqP hr.units) fits_eq (se_callB call_lenA fits_len (by rfl) T.n_len (by decide +kernel) (sa_cons (se_var (pv 0)) sa_nil)) se_int (nomark _)) (se_one (se_callD (ok_is_thing T) 0 (by simp) (fun _ _ => .nil) (hr.mono (by decide)) (takes_of rfl rfl rfl rfl) (by rfl) T.m_is_thing (sa_cons (se_ix (se_var (pv 0)) se_int (fun _ _ => rfl)) sa_nil)))))) ss_nil) (ss_one (ss_ret (se_and (se_cmp (op_eqP hr.units) fits_eq (se_ix (se_var (pv 0)) se_int (fun _ _ => rfl)) se_str (nomark _)) (se_and (se_cmp (op_eqP hr.units) fits_eq (se_callB call_lenA fits_len (by rfl) T.n_len (by decide +kernel) (sa_cons (se_var (pv 0)) sa_nil)) se_int (nomark _)) (se_one (se_callD (ok_is_length T) 0 (by simp) (fun _ _ => .nil) (hr.mono (by decide)) (takes_of rfl rfl rfl rfl) (by rfl) T.m_is_length (sa_cons (se_ix (se_var (pv 0)) se_int (fun _ _ => rfl)) (sa_cons (se_gint (by rfl) T.g_GREATEST_STEP) sa_nil)))))))))))))
theorem sc_is_deed : FnScope ["thing"] ["thing"] (defScope s_is_deed) := ⟨rfl, rfl, rfl, by decide +kernel, rfl, by decide +kernel, by decide +kernel⟩
theorem ok_is_deed (T : Txt K mg) : DefOk P w K mg base 4 (ga K "is_deed") ["thing"] [] F_is_deed := by
  refine def_ok (N := ["thing"]) (k := 3) (g := g_is_deed) T.d_is_deed sc_is_deed (fun _ _ _ _ _ _ us hl => match us, hl with | [_], _ => rfl) ?_
  intro cdv A outer s H E hr
  exact (ss_cons (ss_if (sb_w (sw_or (sb_not (sb_tru (se_isi (by rfl) T.n_isinstance (se_var (pv 0)) (pe_bltn (v := .ty "tuple") (by rfl) T.n_tuple (by decide +kernel) rfl) (.ty _) tTuple_ok trivial) (fun _ => rfl))) (sw_or (sb_cmp (op_neP hr.units) fits_ne (se_callB call_lenA fits_len (by rfl) T.n_len (by decide +kernel) (sa_cons (se_var (pv 0)) sa_nil)) se_int (nomark _)) (sw_or (sb_not (sb_tru (se_isi (by rfl) T.n_isinstance (se_ix (se_var (pv 0)) se_int (fun _ _ => rfl)) (pe_bltn (v := .ty "str") (by rfl) T.n_str (by decide +kernel) rfl) (.ty _) tStr_ok trivial) (fun _ => rfl))) (sw_or1 (sb_cmp (op_neP hr.units) fits_ne (se_ix (se_var (pv 0)) se_int (fun _ _ => rfl)) se_str (nomark _))))))) (ss_one (ss_ret (se_callD (ok_is_plain_deed T) 0 (by simp) (fun _ _ => .nil) (hr.mono (by decide)) (takes_of rfl rfl rfl rfl) (by rfl) T.m_is_plain_deed (sa_cons (se_var (pv 0)) sa_nil)))) ss_nil) (ss_one (ss_ret (se_and (se_callD (ok_is_window T) 0 (by simp) (fun _ _ => .nil) (hr.mono (by decide)) (takes_of rfl rfl rfl rfl) (by rfl) T.m_is_window (sa_cons (se_ix (se_var (pv 0)) se_int (fun _ _ => rfl)) sa_nil)) (se_and (se_or (se_cmp op_isN fits_isN (se_ix (se_var (pv 0)) se_int (fun _ _ => rfl)) se_non (nomark _)) (se_one (se_callD (ok_is_thing T) 0 (by simp) (fun _ _ => .nil) (hr.mono (by decide)) (takes_of rfl rfl rfl rfl) (by rfl) T.m_is_thing (sa_cons (se_ix (se_var (pv 0)) se_int (fun _ _ => rfl)) sa_nil)))) (se_one (se_callD (ok_is_plain_deed T) 0 (by simp) (fun _ _ => .nil) (hr.mono (by decide)) (takes_of rfl rfl rfl rfl) (by rfl) T.m_is_plain_deed (sa_cons (se_ix (se_var (pv 0)) se_int (fun _ _ => rfl)) sa_nil))))))))
theorem sc_Plan_init : FnScope ["self", "deeds", "index", "deed"] ["self", "deeds"] (defScope s_Plan_init) := ⟨rfl, rfl, rfl, by decide +kernel, rfl, by decide +kernel, by decide +kernel⟩
theorem ok_Plan_init (T : Txt K mg) : DefOk P w K mg base 5 (ma K (ga K "Plan") "__init__") ["self", "deeds"] [V.ref (dflAt ("Plan", some "__init__") 0 K)] F_Plan_init := by
  refine def_okD (N := ["self", "deeds", "index", "deed"]) (k := 4) (g := g_Plan_init) T.d_Plan_init sc_Plan_init (by simp) (by simp) (fun j hj => ?_) ?_
  · match j, hj with
    | 0, _ => exact fun _ _ _ _ _ _ _ us its h1 h2 => match us, its, h1, h2 with | [_], [_], _, _ => ⟨_, rfl, rfl⟩
    | 1, _ => exact fun _ _ _ _ _ _ _ us its h1 h2 => match us, its, h1, h2 with | [_, _], [_], _, _ => ⟨_, rfl, rfl⟩
    | _ + 2, h => exact absurd h (by simp)
  intro cdv A outer s H E hr
  exact (ss_cons (ss_if (sb_not (sb_tru (se_isi (by rfl) T.n_isinstance (se_var (pv 1)) (pe_bltn (v := .ty "tuple") (by rfl) T.n_tuple (by decide +kernel) rfl) (.ty _) tTuple_ok trivial) (fun _ => rfl))) (ss_one (ss_raiseF (xd_NoDeed T) rfl rfl rfl (takes_of rfl rfl rfl rfl) (hr.mono (by decide)) (by rfl) T.m_NoDeed (sa_cons se_int sa_nil))) ss_nil) (ss_cons (ss_for (t := (.many [2, 3])) (passes_of rfl) rfl (si_enum (by rfl) T.n_enumerate (sa_cons (se_var (pv 1)) sa_nil)) (pg_tup (by rfl) (pgs_cons (pg_name (i := 2) sc_Plan_init.nd rfl (by first | exact Or.inl rfl | exact Or.inr rfl)) (pgs_cons (pg_name (i := 3) sc_Plan_init.nd rfl (by first | exact Or.inl rfl | exact Or.inr rfl)) pgs_nil))) (ss_one (ss_if (sb_w (sw_or (sb_cmp op_ge fits_cmpI (se_var (pv 2)) (se_gint (by rfl) T.g_MOST_DEEDS) (nomark _)) (sw_or1 (sb_not (sb_tru (se_callD (ok_is_deed T) 0 (by simp) (fun _ _ => .nil) (hr.mono (by decide)) (takes_of rfl rfl rfl rfl) (by rfl) T.m_is_deed (sa_cons (se_var (pv 3)) sa_nil)) (fun _ => rfl)))))) (ss_one (ss_raiseF (xd_NoDeed T) rfl rfl rfl (takes_of rfl rfl rfl rfl) (hr.mono (by decide)) (by rfl) T.m_NoDeed (sa_cons (se_var (pv 2)) sa_nil))) ss_nil))) (ss_one (ss_fld (ci := 3) (i := 0) (by exact T.m_Plan) T.cl_Plan T.na_Plan_kept rfl (by decide +kernel) (by decide) (se_var (pv 0)) (se_var (pv 1))))))
theorem sc_Desk_init : FnScope ["self"] ["self"] (defScope s_Desk_init) := ⟨rfl, rfl, rfl, by decide +kernel, rfl, by decide +kernel, by decide +kernel⟩
theorem ok_Desk_init (T : Txt K mg) : DefOk P w K mg base 7 (ma K (ga K "Desk") "__init__") ["self"] [] F_Desk_init := by
  refine def_ok (N := ["self"]) (k := 6) (g := g_Desk_init) T.d_Desk_init sc_Desk_init (fun _ _ _ _ _ _ us hl => match us, hl with | [_], _ => rfl) ?_
  intro cdv A outer s H E hr
  exact (ss_cons (ss_fld (ci := 7) (i := 0) (by exact T.m_Desk) T.cl_Desk T.na_Desk_sheet rfl (by decide +kernel) (by decide) (se_var (pv 0)) (se_make0D (ci := 3) (ok_Plan_init T) 0 (by simp) (fun _ _ => .cons (nil_ok T.nd_Plan_init_0 _ _) (.nil)) (hr.mono (by decide)) (takes_of rfl rfl rfl rfl) (by exact T.m_Plan) T.mk_Plan (by rfl) T.m_Plan)) (ss_cons (ss_fld (ci := 7) (i := 1) (by exact T.m_Desk) T.cl_Desk T.na_Desk_shelf rfl (by decide +kernel) (by decide) (se_var (pv 0)) (se_newD pe_dnewK)) (ss_one (ss_fld (ci := 7) (i := 2) (by exact T.m_Desk) T.cl_Desk T.na_Desk_past rfl (by decide +kernel) (by decide) (se_var (pv 0)) (se_new sa_nil)))))
theorem sc_law_pot : FnScope ["_law_script", "_law_k", "_law_cell"] ["_law_script", "_law_k"] (defScope s_law_pot) := ⟨rfl, rfl, rfl, by decide +kernel, rfl, by decide +kernel, by decide +kernel⟩
theorem ok_law_pot (T : Txt K mg) : DefOk P w K mg base 1 (ga K "_law_pot") ["_law_script", "_law_k"] [] F_law_pot := by
  refine def_ok (N := ["_law_script", "_law_k", "_law_cell"]) (k := 0) (g := g_law_pot) T.d_law_pot sc_law_pot (fun _ _ _ _ _ _ us hl => match us, hl with | [_, _], _ => rfl) ?_
  intro cdv A outer s H E hr
  exact (ss_cons (ss_set (i := 2) sc_law_pot.nd rfl (by first | exact Or.inl rfl | exact Or.inr rfl) se_int) (ss_cons (ss_if (sb_cmp op_lt fits_cmpI (se_var (pv 1)) (se_callB call_lenA fits_len (by rfl) T.n_len (by decide +kernel) (sa_cons (se_var (pv 0)) sa_nil)) (nomark _)) (ss_one (ss_set (i := 2) sc_law_pot.nd rfl (by first | exact Or.inl rfl | exact Or.inr rfl) (se_callB call_abs fits_abs (by rfl) T.n_abs (by decide +kernel) (sa_cons (se_callTy call_int1 fits_int (by rfl) T.n_int (by decide +kernel) (sa_cons (se_ix (se_var (pv 0)) (se_var (pv 1)) (fun _ _ => rfl)) sa_nil)) sa_nil)))) ss_nil) (ss_one (ss_ret (se_new (sa_cons (se_callB (call_max2 rfl) fits_max (by rfl) T.n_max (by decide +kernel) (sa_cons se_int (sa_cons (se_bin op_sub fits_sub (se_var (pv 2)) (se_bin op_powW fits_pow se_int se_int)) sa_nil))) (sa_cons (se_bin op_addA fits_add (se_bin op_modN fits_mod (se_callTy call_int1 fits_int (by rfl) T.n_int (by decide +kernel) (sa_cons (se_var (pv 2)) sa_nil)) (se_bin op_addA fits_add (se_bin op_powW fits_pow se_int se_int) se_int)) (se_bin op_mulW fits_mul se_int (se_var (pv 1)))) (sa_cons se_int sa_nil))))))))
theorem sc_law_dip : FnScope ["_law_pot_here", "_law_many", "_law_found", "_law_mixed"] ["_law_pot_here", "_law_many"] (defScope s_law_dip) := ⟨rfl, rfl, rfl, by decide +kernel, rfl, by decide +kernel, by decide +kernel⟩
theorem ok_law_dip (T : Txt K mg) : DefOk P w K mg base 1 (ga K "_law_dip") ["_law_pot_here", "_law_many"] [] F_law_dip := by
  refine def_ok (N := ["_law_pot_here", "_law_many", "_law_found", "_law_mixed"]) (k := 0) (g := g_law_dip) T.d_law_dip sc_law_dip (fun _ _ _ _ _ _ us hl => match us, hl with | [_, _], _ => rfl) ?_
  intro cdv A outer s H E hr
  exact (ss_cons (ss_if (sb_cmp op_gt fits_cmpI (se_ix (se_var (pv 0)) se_int (fun _ _ => rfl)) se_int (nomark _)) (ss_cons (ss_set (i := 2) sc_law_dip.nd rfl (by first | exact Or.inl rfl | exact Or.inr rfl) (se_bin op_modN fits_mod (se_callTy call_int1 fits_int (by rfl) T.n_int (by decide +kernel) (sa_cons (se_ix (se_var (pv 0)) se_int (fun _ _ => rfl)) sa_nil)) (se_var (pv 1)))) (ss_cons (ss_sub (se_var (pv 0)) se_int (se_bin op_fdivA fits_div (se_ix (se_var (pv 0)) se_int (fun _ _ => rfl)) (se_var (pv 1)))) (ss_one (ss_ret (se_var (pv 2)))))) ss_nil) (ss_cons (ss_sub (se_var (pv 0)) se_int (se_bin op_addA fits_add (se_ix (se_var (pv 0)) se_int (fun _ _ => rfl)) se_int)) (ss_cons (ss_set (i := 3) sc_law_dip.nd rfl (by first | exact Or.inl rfl | exact Or.inr rfl) (se_bin op_modN fits_mod (se_callTy call_int1 fits_int (by rfl) T.n_int (by decide +kernel) (sa_cons (se_bin op_powW fits_pow (se_bin op_addA fits_add (se_ix (se_var (pv 0)) se_int (fun _ _ => rfl)) (se_bin op_mulW fits_mul se_int (se_ix (se_var (pv 0)) se_int (fun _ _ => rfl)))) se_int) sa_nil)) (se_bin op_addA fits_add (se_bin op_powW fits_pow se_int se_int) se_int))) (ss_cons (ss_set (i := 3) sc_law_dip.nd rfl (by first | exact Or.inl rfl | exact Or.inr rfl) (se_bin op_modN fits_mod (se_callTy call_int1 fits_int (by rfl) T.n_int (by decide +kernel) (sa_cons (se_bin op_powW fits_pow (se_bin op_addA fits_add (se_var (pv 3)) (se_bin op_mulW fits_mul se_int (se_ix (se_var (pv 0)) se_int (fun _ _ => rfl)))) se_int) sa_nil)) (se_bin op_addA fits_add (se_bin op_powW fits_pow se_int se_int) se_int))) (ss_one (ss_ret (se_bin op_modN fits_mod (se_callTy call_int1 fits_int (by rfl) T.n_int (by decide +kernel) (sa_cons (se_bin op_fdivA fits_div (se_var (pv 3)) (se_bin op_powW fits_pow se_int se_int)) sa_nil)) (se_var (pv 1)))))))))
theorem sc_law_thing : FnScope ["_law_pot_here", "_law_some", "_law_size", "_law_k"] ["_law_pot_here"] (defScope s_law_thing) := ⟨rfl, rfl, rfl, by decide +kernel, rfl, by decide +kernel, by decide +kernel⟩
theorem ok_law_thing (T : Txt K mg) : DefOk P w K mg base 2 (ga K "_law_thing") ["_law_pot_here"] [] F_law_thing := by
  refine def_ok (N := ["_law_pot_here", "_law_some", "_law_size", "_law_k"]) (k := 1) (g := g_law_thing) T.d_law_thing sc_law_thing (fun _ _ _ _ _ _ us hl => match us, hl with | [_], _ => rfl) ?_
  intro cdv A outer s H E hr
  exact (ss_cons (ss_if (sb_cmp op_gt fits_cmpI (se_callD (ok_law_dip T) 0 (by simp) (fun _ _ => .nil) (hr.mono (by decide)) (takes_of rfl rfl rfl rfl) (by rfl) T.m_law_dip (sa_cons (se_var (pv 0)) (sa_cons se_int sa_nil))) se_int (nomark _)) (ss_cons (ss_set (i := 1) sc_law_thing.nd rfl (by first | exact Or.inl rfl | exact Or.inr rfl) (se_lst (sa_cons se_str (sa_cons se_str (sa_cons se_str (sa_cons se_str (sa_cons se_str (sa_cons se_str (sa_cons se_str (sa_cons se_str (sa_cons se_str (sa_cons se_str (sa_cons se_str (sa_cons se_str (sa_cons se_str (sa_cons se_str (sa_cons se_str sa_nil))))))))))))))))) (ss_one (ss_ret (se_ix (se_bin op_addA fits_add (se_var (pv 1)) (se_lst (sa_cons se_str sa_nil))) (se_callD (ok_law_dip T) 0 (by simp) (fun _ _ => .nil) (hr.mono (by decide)) (takes_of rfl rfl rfl rfl) (by rfl) T.m_law_dip (sa_cons (se_var (pv 0)) (sa_cons se_int sa_nil))) (fun _ _ => rfl))))) ss_nil) (ss_cons (ss_set (i := 2) sc_law_thing.nd rfl (by first | exact Or.inl rfl | exact Or.inr rfl) (se_bin op_addA fits_add se_int (se_callD (ok_law_dip T) 0 (by simp) (fun _ _ => .nil) (hr.mono (by decide)) (takes_of rfl rfl rfl rfl) (by rfl) T.m_law_dip (sa_cons (se_var (pv 0)) (sa_cons se_int sa_nil))))) (ss_one (ss_ret (se_bm PySem.F.plainAttrs_str PySem.F.slot_str_join PySem.F.type_str_join mt_join fits_join (by decide) se_str (sa_cons (se_lc (own := [("_law_k", 3)]) (t := (.one 3)) rfl sc_law_thing.nd (si_range1 (by rfl) T.n_range (sa_cons (se_var (pv 2)) sa_nil)) (blkOk_by (by rfl)) (by decide) (fun _ _ _ _ _ => (pg_name (i := 3) sc_law_thing.nd rfl (by first | exact Or.inl rfl | exact Or.inr rfl))) (fun _ _ _ _ _ => sts_nil) (fun _ _ _ _ _ => (se_ix se_str (se_callD (ok_law_dip T) 0 (by simp) (fun _ _ => .nil) (hr.mono (by decide)) takesF (by rfl) T.m_law_dip (sa_cons (se_var (pv 0)) (sa_cons se_int sa_nil))) (fun _ _ => rfl))) (by intro _; rfl)) sa_nil))))))
theorem sc_law_plain : FnScope ["_law_pot_here", "_law_way", "_law_window", "_law_number", "_law_step"] ["_law_pot_here"] (defScope s_law_plain) := ⟨rfl, rfl, rfl, by decide +kernel, rfl, by decide +kernel, by decide +kernel⟩
theorem ok_law_plain (T : Txt K mg) : DefOk P w K mg base 3 (ga K "_law_plain") ["_law_pot_here"] [] F_law_plain := by
  refine def_ok (N := ["_law_pot_here", "_law_way", "_law_window", "_law_number", "_law_step"]) (k := 2) (g := g_law_plain) T.d_law_plain sc_law_plain (fun _ _ _ _ _ _ us hl => match us, hl with | [_], _ => rfl) ?_
  intro cdv A outer s H E hr
  exact (ss_cons (ss_par3 (i := 1) (j := 2) (l := 3) rfl sc_law_plain.nd rfl rfl rfl (by decide) (by decide) (by decide) rfl rfl rfl (sa_cons (se_callD (ok_law_dip T) 0 (by simp) (fun _ _ => .nil) (hr.mono (by decide)) (takes_of rfl rfl rfl rfl) (by rfl) T.m_law_dip (sa_cons (se_var (pv 0)) (sa_cons se_int sa_nil))) (sa_cons (se_ix (se_lst (sa_cons se_str (sa_cons se_str sa_nil))) (se_callD (ok_law_dip T) 0 (by simp) (fun _ _ => .nil) (hr.mono (by decide)) (takes_of rfl rfl rfl rfl) (by rfl) T.m_law_dip (sa_cons (se_var (pv 0)) (sa_cons se_int sa_nil))) (fun _ _ => rfl)) (sa_cons (se_bin op_sub fits_sub (se_callD (ok_law_dip T) 0 (by simp) (fun _ _ => .nil) (hr.mono (by decide)) (takes_of rfl rfl rfl rfl) (by rfl) T.m_law_dip (sa_cons (se_var (pv 0)) (sa_cons se_int sa_nil))) se_int) sa_nil))) (by rfl)) (ss_cons (ss_if (sb_cmp op_lt fits_cmpI (se_var (pv 1)) se_int (nomark _)) (ss_one (ss_ret (se_tup (sa_cons (se_ix (se_lst (sa_cons se_str (sa_cons se_str (sa_cons se_str sa_nil)))) (se_var (pv 1)) (fun _ _ => rfl)) (sa_cons (se_var (pv 2)) (sa_cons (se_callD (ok_law_thing T) 0 (by simp) (fun _ _ => .nil) (hr.mono (by decide)) (takes_of rfl rfl rfl rfl) (by rfl) T.m_law_thing (sa_cons (se_var (pv 0)) sa_nil)) sa_nil)))))) ss_nil) (ss_cons (ss_if (sb_cmp (op_eqP hr.units) fits_eq (se_var (pv 1)) se_int (nomark _)) (ss_one (ss_ret (se_tup (sa_cons se_str (sa_cons (se_bin op_addA fits_add (se_var (pv 3)) (se_callTy call_int1 fits_int (by rfl) T.n_int (by decide +kernel) (sa_cons (se_cmp op_ge fits_cmpI (se_var (pv 3)) se_int (nomark _)) sa_nil))) sa_nil))))) ss_nil) (ss_cons (ss_if (sb_cmp (op_eqP hr.units) fits_eq (se_var (pv 1)) se_int (nomark _)) (ss_cons (ss_set (i := 4) sc_law_plain.nd rfl (by first | exact Or.inl rfl | exact Or.inr rfl) (se_bin op_sub fits_sub (se_callD (ok_law_dip T) 0 (by simp) (fun _ _ => .nil) (hr.mono (by decide)) (takes_of rfl rfl rfl rfl) (by rfl) T.m_law_dip (sa_cons (se_var (pv 0)) (sa_cons se_int sa_nil))) se_int)) (ss_one (ss_ret (se_tup (sa_cons se_str (sa_cons (se_var (pv 2)) (sa_cons (se_bin op_addA fits_add (se_var (pv 4)) (se_callTy call_int1 fits_int (by rfl) T.n_int (by decide +kernel) (sa_cons (se_cmp op_ge fits_cmpI (se_var (pv 4)) se_int (nomark _)) sa_nil))) sa_nil))))))) ss_nil) (ss_one (ss_ret (se_tup (sa_cons (se_ix (se_lst (sa_cons se_str (sa_cons se_str sa_nil))) (se_bin op_sub fits_sub (se_var (pv 1)) se_int) (fun _ _ => rfl)) (sa_cons (se_var (pv 2)) sa_nil)))))))))
theorem sc_law_deed : FnScope ["_law_pot_here", "_law_way", "_law_window", "_law_what"] ["_law_pot_here"] (defScope s_law_deed) := ⟨rfl, rfl, rfl, by decide +kernel, rfl, by decide +kernel, by decide +kernel⟩
theorem ok_law_deed (T : Txt K mg) : DefOk P w K mg base 4 (ga K "_law_deed") ["_law_pot_here"] [] F_law_deed := by
  refine def_ok (N := ["_law_pot_here", "_law_way", "_law_window", "_law_what"]) (k := 3) (g := g_law_deed) T.d_law_deed sc_law_deed (fun _ _ _ _ _ _ us hl => match us, hl with | [_], _ => rfl) ?_
  intro cdv A outer s H E hr
  exact (ss_cons (ss_par (i := 1) (j := 2) rfl sc_law_deed.nd rfl rfl (by decide) rfl rfl (sa_cons (se_callD (ok_law_dip T) 0 (by simp) (fun _ _ => .nil) (hr.mono (by decide)) (takes_of rfl rfl rfl rfl) (by rfl) T.m_law_dip (sa_cons (se_var (pv 0)) (sa_cons se_int sa_nil))) (sa_cons (se_ix (se_lst (sa_cons se_str (sa_cons se_str sa_nil))) (se_callD (ok_law_dip T) 0 (by simp) (fun _ _ => .nil) (hr.mono (by decide)) (takes_of rfl rfl rfl rfl) (by rfl) T.m_law_dip (sa_cons (se_var (pv 0)) (sa_cons se_int sa_nil))) (fun _ _ => rfl)) sa_nil)) (by rfl)) (ss_cons (ss_if (sb_cmp op_gt fits_cmpI (se_var (pv 1)) se_int (nomark _)) (ss_one (ss_ret (se_callD (ok_law_plain T) 0 (by simp) (fun _ _ => .nil) (hr.mono (by decide)) (takes_of rfl rfl rfl rfl) (by rfl) T.m_law_plain (sa_cons (se_var (pv 0)) sa_nil)))) ss_nil) (ss_cons (ss_set (i := 3) sc_law_deed.nd rfl (by first | exact Or.inl rfl | exact Or.inr rfl) (se_if (sb_cmp (op_eqP hr.units) fits_eq (se_callD (ok_law_dip T) 0 (by simp) (fun _ _ => .nil) (hr.mono (by decide)) (takes_of rfl rfl rfl rfl) (by rfl) T.m_law_dip (sa_cons (se_var (pv 0)) (sa_cons se_int sa_nil))) se_int (nomark _)) se_non (se_callD (ok_law_thing T) 0 (by simp) (fun _ _ => .nil) (hr.mono (by decide)) (takes_of rfl rfl rfl rfl) (by rfl) T.m_law_thing (sa_cons (se_var (pv 0)) sa_nil)))) (ss_one (ss_ret (se_tup (sa_cons se_str (sa_cons (se_var (pv 2)) (sa_cons (se_var (pv 3)) (sa_cons (se_callD (ok_law_plain T) 0 (by simp) (fun _ _ => .nil) (hr.mono (by decide)) (takes_of rfl rfl rfl rfl) (by rfl) T.m_law_plain (sa_cons (se_var (pv 0)) sa_nil)) sa_nil))))))))))
theorem sc_law_line : FnScope ["_law_deed_here", "_law_part"] ["_law_deed_here"] (defScope s_law_line) := ⟨rfl, rfl, rfl, by decide +kernel, rfl, by decide +kernel, by decide +kernel⟩
theorem ok_law_line (T : Txt K mg) : DefOk P w K mg base 9 (ga K "_law_line") ["_law_deed_here"] [] F_law_line := by
  refine def_rec (N := ["_law_deed_here", "_law_part"]) (k := 0) (g := g_law_line) T.d_law_line sc_law_line (fun _ _ _ _ _ _ us hl => match us, hl with | [_], _ => rfl) (fun n Fr ihr => ?_) 8
  intro cdv A outer s H E hr
  exact (ss_cons (ss_if (sb_cmp (op_eqP hr.units) fits_eq (se_ix (se_var (pv 0)) se_int (fun _ _ => rfl)) se_str (nomark _)) (ss_one (ss_ret (se_bin op_addA fits_add (se_bin op_addA fits_add (se_bin op_addA fits_add (se_bin op_addA fits_add (se_bin op_addA fits_add se_str (se_ix (se_var (pv 0)) se_int (fun _ _ => rfl))) se_str) (se_if (sb_cmp op_isN fits_isN (se_ix (se_var (pv 0)) se_int (fun _ _ => rfl)) se_non (nomark _)) se_str (se_ix (se_var (pv 0)) se_int (fun _ _ => rfl)))) se_str) (se_callD (ps := ["_law_deed_here"]) (dvs := []) (F := Fr) (by exact ihr) 0 (by simp) (fun _ _ => .nil) (by exact hr) (takes_of rfl rfl rfl rfl) (by rfl) T.m_law_line (sa_cons (se_ix (se_var (pv 0)) se_int (fun _ _ => rfl)) sa_nil))))) ss_nil) (ss_one (ss_ret (se_bm PySem.F.plainAttrs_str PySem.F.slot_str_join PySem.F.type_str_join mt_join fits_join (by decide) se_str (sa_cons (se_lc (own := [("_law_part", 1)]) (t := (.one 1)) rfl sc_law_line.nd (si_tup (se_var (pv 0))) (blkOk_by (by rfl)) (by decide) (fun _ _ _ _ _ => (pg_name (i := 1) sc_law_line.nd rfl (by first | exact Or.inl rfl | exact Or.inr rfl))) (fun _ _ _ _ _ => sts_nil) (fun _ _ _ _ _ => (se_callTy call_strA fits_str (by rfl) T.n_str (by decide +kernel) (sa_cons (se_var (pv 1)) sa_nil))) (by intro _; rfl)) sa_nil)))))
theorem sc_law_text : FnScope ["_law_row", "_law_deed_here"] ["_law_row"] (defScope s_law_text) := ⟨rfl, rfl, rfl, by decide +kernel, rfl, by decide +kernel, by decide +kernel⟩
theorem ok_law_text (T : Txt K mg) : DefOk P w K mg base 10 (ga K "_law_text") ["_law_row"] [] F_law_text := by
  refine def_ok (N := ["_law_row", "_law_deed_here"]) (k := 9) (g := g_law_text) T.d_law_text sc_law_text (fun _ _ _ _ _ _ us hl => match us, hl with | [_], _ => rfl) ?_
  intro cdv A outer s H E hr
  exact (ss_one (ss_ret (se_bm PySem.F.plainAttrs_str PySem.F.slot_str_join PySem.F.type_str_join mt_join fits_join (by decide) se_str (sa_cons (se_lc (own := [("_law_deed_here", 1)]) (t := (.one 1)) rfl sc_law_text.nd (si_tup (se_var (pv 0))) (blkOk_by (by rfl)) (by decide) (fun _ _ _ _ _ => (pg_name (i := 1) sc_law_text.nd rfl (by first | exact Or.inl rfl | exact Or.inr rfl))) (fun _ _ _ _ _ => sts_nil) (fun _ _ _ _ _ => (se_callD (ok_law_line T) 0 (by simp) (fun _ _ => .nil) (hr.mono (by decide)) takesF (by rfl) T.m_law_line (sa_cons (se_var (pv 1)) sa_nil))) (by intro _; rfl)) sa_nil))))
theorem sc_law_due : FnScope ["_law_past", "_law_row", "_law_way", "_law_number", "_law_deed_here", "_law_now"] ["_law_past", "_law_row", "_law_way", "_law_number", "_law_deed_here"] (defScope s_law_due) := ⟨rfl, rfl, rfl, by decide +kernel, rfl, by decide +kernel, by decide +kernel⟩
theorem ok_law_due (T : Txt K mg) : DefOk P w K mg base 11 (ga K "_law_due") ["_law_past", "_law_row", "_law_way", "_law_number", "_law_deed_here"] [] F_law_due := by
  refine def_ok (N := ["_law_past", "_law_row", "_law_way", "_law_number", "_law_deed_here", "_law_now"]) (k := 10) (g := g_law_due) T.d_law_due sc_law_due (fun _ _ _ _ _ _ us hl => match us, hl with | [_, _, _, _, _], _ => rfl) ?_
  intro cdv A outer s H E hr
  exact (ss_cons (ss_if (sb_w (sw_and (sb_cmp (op_eqP hr.units) fits_eq (se_var (pv 2)) se_str (nomark _)) (sw_and1 (sb_cmp (op_eqP hr.units) fits_eq (se_callB call_lenA fits_len (by rfl) T.n_len (by decide +kernel) (sa_cons (se_var (pv 1)) sa_nil)) se_int (nomark _))))) (ss_one (ss_ret (se_tup (sa_cons (se_lst (sa_cons se_str sa_nil)) (sa_cons (se_var (pv 1)) sa_nil))))) ss_nil) (ss_cons (ss_if (sb_w (sw_and (sb_cmp (op_eqP hr.units) fits_eq (se_var (pv 2)) se_str (nomark _)) (sw_and1 (sb_cmp op_ge fits_cmpI (se_var (pv 3)) (se_callB call_lenA fits_len (by rfl) T.n_len (by decide +kernel) (sa_cons (se_var (pv 1)) sa_nil)) (nomark _))))) (ss_one (ss_ret (se_tup (sa_cons (se_lst (sa_cons se_str (sa_cons (se_var (pv 3)) sa_nil))) (sa_cons (se_var (pv 1)) sa_nil))))) ss_nil) (ss_cons (ss_if (sb_w (sw_and (sb_cmp (op_eqP hr.units) fits_eq (se_var (pv 2)) se_str (nomark _)) (sw_and1 (sb_cmp (op_eqE hr.units) fits_eqE (se_var (pv 0)) (se_lst sa_nil) (nomark _))))) (ss_one (ss_ret (se_tup (sa_cons (se_lst (sa_cons se_str sa_nil)) (sa_cons (se_var (pv 1)) sa_nil))))) ss_nil) (ss_cons (ss_if (sb_cmp (op_eqP hr.units) fits_eq (se_var (pv 2)) se_str (nomark _)) (ss_one (ss_ret (se_tup (sa_cons se_str (sa_cons (se_bm0 PySem.F.plainAttrs_list PySem.F.slot_list_pop PySem.F.type_list_pop mt_pop fits_pop (by decide) (se_var (pv 0))) sa_nil))))) ss_nil) (ss_cons (ss_if (sb_cmp (op_eqP hr.units) fits_eq (se_var (pv 2)) se_str (nomark _)) (ss_one (ss_ret (se_tup (sa_cons (se_if (sb_cmp (op_neP hr.units) fits_ne (se_var (pv 1)) (se_tup sa_nil) (nomark _)) (se_callD (ok_law_text T) 0 (by simp) (fun _ _ => .nil) (hr.mono (by decide)) (takes_of rfl rfl rfl rfl) (by rfl) T.m_law_text (sa_cons (se_var (pv 1)) sa_nil)) se_str) (sa_cons (se_var (pv 1)) sa_nil))))) ss_nil) (ss_cons (ss_drop (se_bm PySem.F.plainAttrs_list PySem.F.slot_list_append PySem.F.type_list_append mt_append fits_app (by decide) (se_var (pv 0)) (sa_cons (se_var (pv 1)) sa_nil))) (ss_cons (ss_set (i := 5) sc_law_due.nd rfl (by first | exact Or.inl rfl | exact Or.inr rfl) (se_dget (Nat.lt_of_le_of_lt (Nat.add_le_add_left (by decide) _) hr.units) (se_disp (.cons se_str (se_bin op_addA fits_add (se_var (pv 1)) (se_tup (sa_cons (se_var (pv 4)) sa_nil))) (.cons se_str (se_tup sa_nil) (.cons se_str (se_bin op_addA fits_add (se_sl (se_var (pv 1)) so_none (so_some (se_var (pv 3)))) (se_sl (se_var (pv 1)) (so_some (se_bin op_addA fits_add (se_var (pv 3)) se_int)) so_none)) .nil))) rfl rfl (by simp) (by decide)) (se_var (pv 2)) (fun _ _ => rfl))) (ss_one (ss_ret (se_tup (sa_cons (se_bin op_addA fits_add se_str (se_callTy call_strA fits_str (by rfl) T.n_str (by decide +kernel) (sa_cons (se_callB call_lenA fits_len (by rfl) T.n_len (by decide +kernel) (sa_cons (se_var (pv 5)) sa_nil)) sa_nil))) (sa_cons (se_var (pv 5)) sa_nil))))))))))))
theorem sc_Desk_remember : FnScope ["self"] ["self"] (defScope s_Desk_remember) := ⟨rfl, rfl, rfl, by decide +kernel, rfl, by decide +kernel, by decide +kernel⟩
theorem ok_Desk_remember (T : Txt K mg) : DefOk P w K mg base 1 (ma K (ga K "Desk") "remember") ["self"] [] F_Desk_remember := by
  refine def_ok (N := ["self"]) (k := 0) (g := g_Desk_remember) T.d_Desk_remember sc_Desk_remember (fun _ _ _ _ _ _ us hl => match us, hl with | [_], _ => rfl) ?_
  intro cdv A outer s H E hr
  exact (ss_one (ss_drop (se_bm PySem.F.plainAttrs_list PySem.F.slot_list_append PySem.F.type_list_append mt_append fits_app (by decide) (se_fld (c := 7) (i := 2) (by exact T.m_Desk) T.cl_Desk T.na_Desk_past rfl (by decide +kernel) (se_var (pv 0))) (sa_cons (se_tup (sa_cons (se_fld (c := 7) (i := 0) (by exact T.m_Desk) T.cl_Desk T.na_Desk_sheet rfl (by decide +kernel) (se_var (pv 0))) (sa_cons (se_callTy call_dictD fits_dict (by rfl) T.n_dict (by decide +kernel) (sa_cons (se_fld (c := 7) (i := 1) (by exact T.m_Desk) T.cl_Desk T.na_Desk_shelf rfl (by decide +kernel) (se_var (pv 0))) sa_nil)) sa_nil))) sa_nil))))
theorem sc_Plan_len : FnScope ["self"] ["self"] (defScope s_Plan_len) := ⟨rfl, rfl, rfl, by decide +kernel, rfl, by decide +kernel, by decide +kernel⟩
theorem ok_Plan_len (T : Txt K mg) : DefOk P w K mg base 1 (ma K (ga K "Plan") "__len__") ["self"] [] F_Plan_len := by
  refine def_ok (N := ["self"]) (k := 0) (g := g_Plan_len) T.d_Plan_len sc_Plan_len (fun _ _ _ _ _ _ us hl => match us, hl with | [_], _ => rfl) ?_
  intro cdv A outer s H E hr
  exact (ss_one (ss_ret (se_callB call_lenA fits_len (by rfl) T.n_len (by decide +kernel) (sa_cons (se_fld (c := 3) (i := 0) (by exact T.m_Plan) T.cl_Plan T.na_Plan_kept rfl (by decide +kernel) (se_var (pv 0))) sa_nil))))
theorem sc_Desk_turn_to : FnScope ["self", "plan"] ["self", "plan"] (defScope s_Desk_turn_to) := ⟨rfl, rfl, rfl, by decide +kernel, rfl, by decide +kernel, by decide +kernel⟩
theorem ok_Desk_turn_to (T : Txt K mg) : DefOk P w K mg base 3 (ma K (ga K "Desk") "turn_to") ["self", "plan"] [] F_Desk_turn_to := by
  refine def_ok (N := ["self", "plan"]) (k := 2) (g := g_Desk_turn_to) T.d_Desk_turn_to sc_Desk_turn_to (fun _ _ _ _ _ _ us hl => match us, hl with | [_, _], _ => rfl) ?_
  intro cdv A outer s H E hr
  exact (ss_cons (ss_drop (se_meth0D (c := 7) (ok_Desk_remember T) 0 (by simp) (fun _ _ => .nil) (hr.mono (by decide)) (takes_of rfl rfl rfl rfl) (by exact T.m_Desk) T.cl_Desk T.me_Desk_remember (by decide +kernel) (se_var (pv 0)))) (ss_cons (ss_fld (ci := 7) (i := 0) (by exact T.m_Desk) T.cl_Desk T.na_Desk_sheet rfl (by decide +kernel) (by decide) (se_var (pv 0)) (se_var (pv 1))) (ss_one (ss_ret (se_joined (.cons se_str (.cons (se_fmt (se_callS (CalS.lenO (c := 3) (ok_Plan_len T) rfl (hr.mono (by decide)) (takes_of rfl rfl rfl rfl) (by exact T.m_Plan) T.me_Plan_len (CalS.of call_lenA fits_len)) (by rfl) T.n_len (by decide +kernel) (sa_cons (se_var (pv 1)) sa_nil))) .nil)))))))
theorem sc_Plan_deeds : FnScope ["self"] ["self"] (defScope s_Plan_deeds) := ⟨rfl, rfl, rfl, by decide +kernel, rfl, by decide +kernel, by decide +kernel⟩
theorem ok_Plan_deeds (T : Txt K mg) : DefOk P w K mg base 1 (ma K (ga K "Plan") "deeds") ["self"] [] F_Plan_deeds := by
  refine def_ok (N := ["self"]) (k := 0) (g := g_Plan_deeds) T.d_Plan_deeds sc_Plan_deeds (fun _ _ _ _ _ _ us hl => match us, hl with | [_], _ => rfl) ?_
  intro cdv A outer s H E hr
  exact (ss_one (ss_ret (se_fld (c := 3) (i := 0) (by exact T.m_Plan) T.cl_Plan T.na_Plan_kept rfl (by decide +kernel) (se_var (pv 0)))))
theorem sc_deed_text : FnScope ["deed", "part"] ["deed"] (defScope s_deed_text) := ⟨rfl, rfl, rfl, by decide +kernel, rfl, by decide +kernel, by decide +kernel⟩
theorem ok_deed_text (T : Txt K mg) : DefOk P w K mg base 9 (ga K "deed_text") ["deed"] [] F_deed_text := by
  refine def_rec (N := ["deed", "part"]) (k := 0) (g := g_deed_text) T.d_deed_text sc_deed_text (fun _ _ _ _ _ _ us hl => match us, hl with | [_], _ => rfl) (fun n Fr ihr => ?_) 8
  intro cdv A outer s H E hr
  exact (ss_cons (ss_if (sb_cmp (op_eqP hr.units) fits_eq (se_ix (se_var (pv 0)) se_int (fun _ _ => rfl)) se_str (nomark _)) (ss_one (ss_ret (se_joined (.cons se_str (.cons (se_fmt (se_ix (se_var (pv 0)) se_int (fun _ _ => rfl))) (.cons se_str (.cons (se_fmt (se_if (sb_cmp op_isN fits_isN (se_ix (se_var (pv 0)) se_int (fun _ _ => rfl)) se_non (nomark _)) se_str (se_ix (se_var (pv 0)) se_int (fun _ _ => rfl)))) (.cons se_str (.cons (se_fmt (se_callD (ps := ["deed"]) (dvs := []) (F := Fr) (by exact ihr) 0 (by simp) (fun _ _ => .nil) (by exact hr) (takes_of rfl rfl rfl rfl) (by rfl) T.m_deed_text (sa_cons (se_ix (se_var (pv 0)) se_int (fun _ _ => rfl)) sa_nil))) .nil))))))))) ss_nil) (ss_one (ss_ret (se_bm PySem.F.plainAttrs_str PySem.F.slot_str_join PySem.F.type_str_join mt_join fits_join (by decide) se_str (sa_cons (se_lc (own := [("part", 1)]) (t := (.one 1)) rfl sc_deed_text.nd (si_any (se_var (pv 0))) (blkOk_by (by rfl)) (by decide) (fun _ _ _ _ _ => (pg_name (i := 1) sc_deed_text.nd rfl (by first | exact Or.inl rfl | exact Or.inr rfl))) (fun _ _ _ _ _ => sts_nil) (fun _ _ _ _ _ => (se_callTy call_strA fits_str (by rfl) T.n_str (by decide +kernel) (sa_cons (se_var (pv 1)) sa_nil))) (by intro _; rfl)) sa_nil)))))
theorem sc_plan_text : FnScope ["plan", "deed"] ["plan"] (defScope s_plan_text) := ⟨rfl, rfl, rfl, by decide +kernel, rfl, by decide +kernel, by decide +kernel⟩
theorem ok_plan_text (T : Txt K mg) : DefOk P w K mg base 10 (ga K "plan_text") ["plan"] [] F_plan_text := by
  refine def_ok (N := ["plan", "deed"]) (k := 9) (g := g_plan_text) T.d_plan_text sc_plan_text (fun _ _ _ _ _ _ us hl => match us, hl with | [_], _ => rfl) ?_
  intro cdv A outer s H E hr
  exact (ss_one (ss_ret (se_bm PySem.F.plainAttrs_str PySem.F.slot_str_join PySem.F.type_str_join mt_join fits_join (by decide) se_str (sa_cons (se_lc (own := [("deed", 1)]) (t := (.one 1)) rfl sc_plan_text.nd (si_tup (se_meth0D (c := 3) (ok_Plan_deeds T) 0 (by simp) (fun _ _ => .nil) (hr.mono (by decide)) (takes_of rfl rfl rfl rfl) (by exact T.m_Plan) T.cl_Plan T.me_Plan_deeds (by decide +kernel) (se_var (pv 0)))) (blkOk_by (by rfl)) (by decide) (fun _ _ _ _ _ => (pg_name (i := 1) sc_plan_text.nd rfl (by first | exact Or.inl rfl | exact Or.inr rfl))) (fun _ _ _ _ _ => sts_nil) (fun _ _ _ _ _ => (se_callD (ok_deed_text T) 0 (by simp) (fun _ _ => .nil) (hr.mono (by decide)) takesF (by rfl) T.m_deed_text (sa_cons (se_var (pv 1)) sa_nil))) (by intro _; rfl)) sa_nil))))
theorem sc_Desk_undo : FnScope ["self"] ["self"] (defScope s_Desk_undo) := ⟨rfl, rfl, rfl, by decide +kernel, rfl, by decide +kernel, by decide +kernel⟩
theorem ok_Desk_undo (T : Txt K mg) : DefOk P w K mg base 1 (ma K (ga K "Desk") "undo") ["self"] [] F_Desk_undo := by
  refine def_ok (N := ["self"]) (k := 0) (g := g_Desk_undo) T.d_Desk_undo sc_Desk_undo (fun _ _ _ _ _ _ us hl => match us, hl with | [_], _ => rfl) ?_
  intro cdv A outer s H E hr
  exact (ss_cons (ss_if (sb_cmp (op_eqE hr.units) fits_eqE (se_fld (c := 7) (i := 2) (by exact T.m_Desk) T.cl_Desk T.na_Desk_past rfl (by decide +kernel) (se_var (pv 0))) (se_lst sa_nil) (nomark _)) (ss_one (ss_raise (ci := 14) (xown_ok rfl T.m_NothingToUndo T.x_NothingToUndo) rfl rfl (takes_of rfl rfl rfl rfl) (by rfl))) ss_nil) (ss_cons (ss_asgF (l := [(7, 0, (fVar 0)), (7, 1, (fVar 0))]) rfl (.cons (by exact T.m_Desk) T.cl_Desk T.na_Desk_sheet rfl (by decide +kernel) (by decide) (se_var (pv 0)) rfl (.cons (by exact T.m_Desk) T.cl_Desk T.na_Desk_shelf rfl (by decide +kernel) (by decide) (se_var (pv 0)) rfl .nil)) (se_bm0 PySem.F.plainAttrs_list PySem.F.slot_list_pop PySem.F.type_list_pop mt_pop fits_pop (by decide) (se_fld (c := 7) (i := 2) (by exact T.m_Desk) T.cl_Desk T.na_Desk_past rfl (by decide +kernel) (se_var (pv 0))))) (ss_one (ss_ret se_str))))
theorem sc_Desk_alone : FnScope ["self", "word"] ["self", "word"] (defScope s_Desk_alone) := ⟨rfl, rfl, rfl, by decide +kernel, rfl, by decide +kernel, by decide +kernel⟩
theorem ok_Desk_alone (T : Txt K mg) : DefOk P w K mg base 11 (ma K (ga K "Desk") "alone") ["self", "word"] [] F_Desk_alone := by
  refine def_ok (N := ["self", "word"]) (k := 10) (g := g_Desk_alone) T.d_Desk_alone sc_Desk_alone (fun _ _ _ _ _ _ us hl => match us, hl with | [_, _], _ => rfl) ?_
  intro cdv A outer s H E hr
  exact (ss_cons (ss_if (sb_cmp (op_eqP hr.units) fits_eq (se_var (pv 1)) se_str (nomark _)) (ss_one (ss_ret (se_methD (c := 7) (ok_Desk_turn_to T) 0 (by simp) (fun _ _ => .nil) (hr.mono (by decide)) (takes_of rfl rfl rfl rfl) (by exact T.m_Desk) T.cl_Desk T.me_Desk_turn_to (by decide +kernel) (se_var (pv 0)) (sa_cons (se_make0D (ci := 3) (ok_Plan_init T) 0 (by simp) (fun _ _ => .cons (nil_ok T.nd_Plan_init_0 _ _) (.nil)) (hr.mono (by decide)) (takes_of rfl rfl rfl rfl) (by exact T.m_Plan) T.mk_Plan (by rfl) T.m_Plan) sa_nil)))) ss_nil) (ss_cons (ss_if (sb_cmp (op_eqP hr.units) fits_eq (se_var (pv 1)) se_str (nomark _)) (ss_one (ss_ret (se_or (se_callD (ok_plan_text T) 0 (by simp) (fun _ _ => .nil) (hr.mono (by decide)) (takes_of rfl rfl rfl rfl) (by rfl) T.m_plan_text (sa_cons (se_fld (c := 7) (i := 0) (by exact T.m_Desk) T.cl_Desk T.na_Desk_sheet rfl (by decide +kernel) (se_var (pv 0))) sa_nil)) (se_one se_str)))) ss_nil) (ss_cons (ss_if (sb_cmp (op_eqP hr.units) fits_eq (se_var (pv 1)) se_str (nomark _)) (ss_one (ss_ret se_never)) ss_nil) (ss_cons (ss_if (sb_cmp (op_eqP hr.units) fits_eq (se_var (pv 1)) se_str (nomark _)) (ss_one (ss_ret se_never)) ss_nil) (ss_cons (ss_if (sb_cmp (op_eqP hr.units) fits_eq (se_var (pv 1)) se_str (nomark _)) (ss_one (ss_ret (se_meth0D (c := 7) (ok_Desk_undo T) 0 (by simp) (fun _ _ => .nil) (hr.mono (by decide)) (takes_of rfl rfl rfl rfl) (by exact T.m_Desk) T.cl_Desk T.me_Desk_undo (by decide +kernel) (se_var (pv 0))))) ss_nil) (ss_one (ss_raise (ci := 16) (xown_ok rfl T.m_NoOrder T.x_NoOrder) rfl rfl (takes_of rfl rfl rfl rfl) (by rfl))))))))
theorem sc_Plan_add : FnScope ["self", "other"] ["self", "other"] (defScope s_Plan_add) := ⟨rfl, rfl, rfl, by decide +kernel, rfl, by decide +kernel, by decide +kernel⟩
theorem ok_Plan_add (T : Txt K mg) : DefOk P w K mg base 7 (ma K (ga K "Plan") "__add__") ["self", "other"] [] F_Plan_add := by
  refine def_ok (N := ["self", "other"]) (k := 6) (g := g_Plan_add) T.d_Plan_add sc_Plan_add (fun _ _ _ _ _ _ us hl => match us, hl with | [_, _], _ => rfl) ?_
  intro cdv A outer s H E hr
  exact (ss_one (ss_ret (se_makeD (ci := 3) (ok_Plan_init T) 1 (by simp) (fun _ _ => .nil) (hr.mono (by decide)) (takes_of rfl rfl rfl rfl) (by exact T.m_Plan) T.mk_Plan (by rfl) T.m_Plan (sa_cons (se_bin op_addA fits_add (se_fld (c := 3) (i := 0) (by exact T.m_Plan) T.cl_Plan T.na_Plan_kept rfl (by decide +kernel) (se_var (pv 0))) (se_fld (c := 3) (i := 0) (by exact T.m_Plan) T.cl_Plan T.na_Plan_kept rfl (by decide +kernel) (se_var (pv 1)))) sa_nil))))
theorem sc_Desk_put_deed : FnScope ["self", "deed"] ["self", "deed"] (defScope s_Desk_put_deed) := ⟨rfl, rfl, rfl, by decide +kernel, rfl, by decide +kernel, by decide +kernel⟩
theorem ok_Desk_put_deed (T : Txt K mg) : DefOk P w K mg base 8 (ma K (ga K "Desk") "put_deed") ["self", "deed"] [] F_Desk_put_deed := by
  refine def_ok (N := ["self", "deed"]) (k := 7) (g := g_Desk_put_deed) T.d_Desk_put_deed sc_Desk_put_deed (fun _ _ _ _ _ _ us hl => match us, hl with | [_, _], _ => rfl) ?_
  intro cdv A outer s H E hr
  exact (ss_cons (ss_if (sb_not (sb_tru (se_callD (ok_is_deed T) 0 (by simp) (fun _ _ => .nil) (hr.mono (by decide)) (takes_of rfl rfl rfl rfl) (by rfl) T.m_is_deed (sa_cons (se_var (pv 1)) sa_nil)) (fun _ => rfl))) (ss_one (ss_raise (ci := 16) (xown_ok rfl T.m_NoOrder T.x_NoOrder) rfl rfl (takes_of rfl rfl rfl rfl) (by rfl))) ss_nil) (ss_cons (ss_if (sb_cmp (op_eqP hr.units) fits_eq (se_callS (CalS.lenO (c := 3) (ok_Plan_len T) rfl (hr.mono (by decide)) (takes_of rfl rfl rfl rfl) (by exact T.m_Plan) T.me_Plan_len (CalS.of call_lenA fits_len)) (by rfl) T.n_len (by decide +kernel) (sa_cons (se_fld (c := 7) (i := 0) (by exact T.m_Desk) T.cl_Desk T.na_Desk_sheet rfl (by decide +kernel) (se_var (pv 0))) sa_nil)) (se_gint (by rfl) T.g_MOST_DEEDS) (nomark _)) (ss_one (ss_raise (ci := 17) (xown_ok rfl T.m_NoRoom T.x_NoRoom) rfl rfl (takes_of rfl rfl rfl rfl) (by rfl))) ss_nil) (ss_one (ss_ret (se_methD (c := 7) (ok_Desk_turn_to T) 0 (by simp) (fun _ _ => .nil) (hr.mono (by decide)) (takes_of rfl rfl rfl rfl) (by exact T.m_Desk) T.cl_Desk T.me_Desk_turn_to (by decide +kernel) (se_var (pv 0)) (sa_cons (se_binS (BinS.ownI (c := 3) (ok_Plan_add T) (hr.mono (by decide)) (takes_of rfl rfl rfl rfl) (by exact T.m_Plan) T.me_Plan_add T.sf_Plan dBad_ok) (se_fld (c := 7) (i := 0) (by exact T.m_Desk) T.cl_Desk T.na_Desk_sheet rfl (by decide +kernel) (se_var (pv 0))) (se_makeD (ci := 3) (ok_Plan_init T) 1 (by simp) (fun _ _ => .nil) (hr.mono (by decide)) (takes_of rfl rfl rfl rfl) (by exact T.m_Plan) T.mk_Plan (by rfl) T.m_Plan (sa_cons (se_tup (sa_cons (se_var (pv 1)) sa_nil)) sa_nil))) sa_nil))))))
theorem sc_read_number : FnScope ["word", "digits"] ["word"] (defScope s_read_number) := ⟨rfl, rfl, rfl, by decide +kernel, rfl, by decide +kernel, by decide +kernel⟩
theorem ok_read_number (T : Txt K mg) : DefOk P w K mg base 1 (ga K "read_number") ["word"] [] F_read_number := by
  refine def_ok (N := ["word", "digits"]) (k := 0) (g := g_read_number) T.d_read_number sc_read_number (fun _ _ _ _ _ _ us hl => match us, hl with | [_], _ => rfl) ?_
  intro cdv A outer s H E hr
  exact (ss_cons (ss_set (i := 1) sc_read_number.nd rfl (by first | exact Or.inl rfl | exact Or.inr rfl) (se_if (sb_tru (se_bm PySem.F.plainAttrs_str PySem.F.slot_str_startswith PySem.F.type_str_startswith mt_startswith fits_s2b (by decide) (se_var (pv 0)) (sa_cons se_str sa_nil)) (fun _ => rfl)) (se_sl (se_var (pv 0)) (so_some se_int) so_none) (se_var (pv 0)))) (ss_cons (ss_if (sb_w (sw_or (sb_not (sb_tru (se_bm0 PySem.F.plainAttrs_str PySem.F.slot_str_isdigit PySem.F.type_str_isdigit mt_isdigit fits_digit (by decide) (se_var (pv 1))) (fun _ => rfl))) (sw_or1 (sb_w (sw_and (sb_tru (se_bm PySem.F.plainAttrs_str PySem.F.slot_str_startswith PySem.F.type_str_startswith mt_startswith fits_s2b (by decide) (se_var (pv 1)) (sa_cons se_str sa_nil)) (fun _ => rfl)) (sw_and1 (sb_cmp (op_neP hr.units) fits_ne (se_var (pv 0)) se_str (nomark _)))))))) (ss_one (ss_ret se_non)) ss_nil) (ss_one (ss_ret (se_callTy call_intA fits_intS (by rfl) T.n_int (by decide +kernel) (sa_cons (se_var (pv 0)) sa_nil))))))
theorem sc_read_plain : FnScope ["line", "words"] ["line"] (defScope s_read_plain) := ⟨rfl, rfl, rfl, by decide +kernel, rfl, by decide +kernel, by decide +kernel⟩
theorem ok_read_plain (T : Txt K mg) : DefOk P w K mg base 2 (ga K "read_plain") ["line"] [] F_read_plain := by
  refine def_ok (N := ["line", "words"]) (k := 1) (g := g_read_plain) T.d_read_plain sc_read_plain (fun _ _ _ _ _ _ us hl => match us, hl with | [_], _ => rfl) ?_
  intro cdv A outer s H E hr
  exact (ss_cons (ss_set (i := 1) sc_read_plain.nd rfl (by first | exact Or.inl rfl | exact Or.inr rfl) (se_bm PySem.F.plainAttrs_str PySem.F.slot_str_split PySem.F.type_str_split mt_split fits_split (by decide) (se_var (pv 0)) (sa_cons se_str sa_nil))) (ss_cons (ss_if (sb_cmp op_in_seq fits_inL (se_ix (se_var (pv 1)) se_int (fun _ _ => rfl)) (se_tup (sa_cons se_str (sa_cons se_str sa_nil))) (by rfl)) (ss_one (ss_ret (se_tup (sa_star (se_sl (se_var (pv 1)) so_none (so_some (se_un un_neg fits_neg se_int))) (sa_cons (se_callD (ok_read_number T) 0 (by simp) (fun _ _ => .nil) (hr.mono (by decide)) (takes_of rfl rfl rfl rfl) (by rfl) T.m_read_number (sa_cons (se_ix (se_var (pv 1)) (se_un un_neg fits_neg se_int) (fun _ _ => rfl)) sa_nil)) sa_nil))))) ss_nil) (ss_one (ss_ret (se_callTy call_tuple_of fits_tuple (by rfl) T.n_tuple (by decide +kernel) (sa_cons (se_var (pv 1)) sa_nil))))))
theorem sc_read_deed : FnScope ["line", "head", "parted", "rest", "words", "first", "window", "what"] ["line"] (defScope s_read_deed) := ⟨rfl, rfl, rfl, by decide +kernel, rfl, by decide +kernel, by decide +kernel⟩
theorem ok_read_deed (T : Txt K mg) : DefOk P w K mg base 3 (ga K "read_deed") ["line"] [] F_read_deed := by
  refine def_ok (N := ["line", "head", "parted", "rest", "words", "first", "window", "what"]) (k := 2) (g := g_read_deed) T.d_read_deed sc_read_deed (fun _ _ _ _ _ _ us hl => match us, hl with | [_], _ => rfl) ?_
  intro cdv A outer s H E hr
  exact (ss_cons (ss_asg (t := (.many [1, 2, 3])) (pg_tup (by rfl) (pgs_cons (pg_name (i := 1) sc_read_deed.nd rfl (by first | exact Or.inl rfl | exact Or.inr rfl)) (pgs_cons (pg_name (i := 2) sc_read_deed.nd rfl (by first | exact Or.inl rfl | exact Or.inr rfl)) (pgs_cons (pg_name (i := 3) sc_read_deed.nd rfl (by first | exact Or.inl rfl | exact Or.inr rfl)) pgs_nil)))) (se_bm PySem.F.plainAttrs_str PySem.F.slot_str_partition PySem.F.type_str_partition mt_partition fits_part (by decide) (se_var (pv 0)) (sa_cons se_str sa_nil))) (ss_cons (ss_if (sb_not (sb_tru (se_var (pv 2)) (fun _ => rfl))) (ss_one (ss_ret (se_callD (ok_read_plain T) 0 (by simp) (fun _ _ => .nil) (hr.mono (by decide)) (takes_of rfl rfl rfl rfl) (by rfl) T.m_read_plain (sa_cons (se_var (pv 0)) sa_nil)))) ss_nil) (ss_cons (ss_set (i := 4) sc_read_deed.nd rfl (by first | exact Or.inl rfl | exact Or.inr rfl) (se_bm PySem.F.plainAttrs_str PySem.F.slot_str_split PySem.F.type_str_split mt_split fits_split (by decide) (se_var (pv 1)) (sa_cons se_str sa_nil))) (ss_cons (ss_if (sb_cmp (op_neP hr.units) fits_ne (se_callB call_lenA fits_len (by rfl) T.n_len (by decide +kernel) (sa_cons (se_var (pv 4)) sa_nil)) se_int (nomark _)) (ss_one (ss_ret se_non)) ss_nil) (ss_cons (ss_asgL (l := [5, 6, 7]) rfl (pgs_cons (pg_name (i := 5) sc_read_deed.nd rfl (by first | exact Or.inl rfl | exact Or.inr rfl)) (pgs_cons (pg_name (i := 6) sc_read_deed.nd rfl (by first | exact Or.inl rfl | exact Or.inr rfl)) (pgs_cons (pg_name (i := 7) sc_read_deed.nd rfl (by first | exact Or.inl rfl | exact Or.inr rfl)) pgs_nil))) (se_var (pv 4))) (ss_one (ss_ret (se_tup (sa_cons (se_var (pv 5)) (sa_cons (se_var (pv 6)) (sa_cons (se_if (sb_cmp (op_eqP hr.units) fits_eq (se_var (pv 7)) se_str (nomark _)) se_non (se_var (pv 7))) (sa_cons (se_callD (ok_read_plain T) 0 (by simp) (fun _ _ => .nil) (hr.mono (by decide)) (takes_of rfl rfl rfl rfl) (by rfl) T.m_read_plain (sa_cons (se_var (pv 3)) sa_nil)) sa_nil))))))))))))
theorem sc_number_of : FnScope ["word", "least", "most", "number"] ["word", "least", "most"] (defScope s_number_of) := ⟨rfl, rfl, rfl, by decide +kernel, rfl, by decide +kernel, by decide +kernel⟩
theorem ok_number_of (T : Txt K mg) : DefOk P w K mg base 2 (ga K "number_of") ["word", "least", "most"] [] F_number_of := by
  refine def_ok (N := ["word", "least", "most", "number"]) (k := 1) (g := g_number_of) T.d_number_of sc_number_of (fun _ _ _ _ _ _ us hl => match us, hl with | [_, _, _], _ => rfl) ?_
  intro cdv A outer s H E hr
  exact (ss_cons (ss_set (i := 3) sc_number_of.nd rfl (by first | exact Or.inl rfl | exact Or.inr rfl) (se_callD (ok_read_number T) 0 (by simp) (fun _ _ => .nil) (hr.mono (by decide)) (takes_of rfl rfl rfl rfl) (by rfl) T.m_read_number (sa_cons (se_var (pv 0)) sa_nil))) (ss_cons (ss_if (sb_w (sw_or (sb_cmp op_isN fits_isN (se_var (pv 3)) se_non (nomark _)) (sw_or1 (sb_not (sb_chn op_le fits_cmpI op_le fits_cmpI (se_var (pv 1)) (se_var (pv 3)) (se_var (pv 2))))))) (ss_one (ss_raise (ci := 16) (xown_ok rfl T.m_NoOrder T.x_NoOrder) rfl rfl (takes_of rfl rfl rfl rfl) (by rfl))) ss_nil) (ss_one (ss_ret (se_var (pv 3))))))
theorem sc_Plan_has : FnScope ["self", "index"] ["self", "index"] (defScope s_Plan_has) := ⟨rfl, rfl, rfl, by decide +kernel, rfl, by decide +kernel, by decide +kernel⟩
theorem ok_Plan_has (T : Txt K mg) : DefOk P w K mg base 2 (ma K (ga K "Plan") "has") ["self", "index"] [] F_Plan_has := by
  refine def_ok (N := ["self", "index"]) (k := 1) (g := g_Plan_has) T.d_Plan_has sc_Plan_has (fun _ _ _ _ _ _ us hl => match us, hl with | [_, _], _ => rfl) ?_
  intro cdv A outer s H E hr
  exact (ss_one (ss_ret (se_and (se_callD (ok_is_whole T) 0 (by simp) (fun _ _ => .nil) (hr.mono (by decide)) (takes_of rfl rfl rfl rfl) (by rfl) T.m_is_whole (sa_cons (se_var (pv 1)) sa_nil)) (se_one (se_chn op_le fits_cmpI op_lt fits_cmpI se_int (se_var (pv 1)) (se_callB call_lenA fits_len (by rfl) T.n_len (by decide +kernel) (sa_cons (se_fld (c := 3) (i := 0) (by exact T.m_Plan) T.cl_Plan T.na_Plan_kept rfl (by decide +kernel) (se_var (pv 0))) sa_nil)))))))
theorem sc_Plan_without : FnScope ["self", "indexes", "left_out", "index", "deed"] ["self", "indexes"] (defScope s_Plan_without) := ⟨rfl, rfl, rfl, by decide +kernel, rfl, by decide +kernel, by decide +kernel⟩
theorem ok_Plan_without (T : Txt K mg) : DefOk P w K mg base 7 (ma K (ga K "Plan") "without") ["self", "indexes"] [] F_Plan_without := by
  refine def_ok (N := ["self", "indexes", "left_out", "index", "deed"]) (k := 6) (g := g_Plan_without) T.d_Plan_without sc_Plan_without (fun _ _ _ _ _ _ us hl => match us, hl with | [_, _], _ => rfl) ?_
  intro cdv A outer s H E hr
  exact (ss_cons (ss_if (sb_not (sb_tru (se_isi (by rfl) T.n_isinstance (se_var (pv 1)) (pe_bltn (v := .ty "tuple") (by rfl) T.n_tuple (by decide +kernel) rfl) (.ty _) tTuple_ok trivial) (fun _ => rfl))) (ss_one (ss_raiseF (xd_NoDeed T) rfl rfl rfl (takes_of rfl rfl rfl rfl) (hr.mono (by decide)) (by rfl) T.m_NoDeed (sa_cons se_int sa_nil))) ss_nil) (ss_cons (ss_set (i := 2) sc_Plan_without.nd rfl (by first | exact Or.inl rfl | exact Or.inr rfl) (se_new sa_nil)) (ss_cons (ss_for (t := (.one 3)) (passes_of rfl) rfl (si_tup (se_var (pv 1))) (pg_name (i := 3) sc_Plan_without.nd rfl (by first | exact Or.inl rfl | exact Or.inr rfl)) (ss_cons (ss_if (sb_w (sw_or (sb_not (sb_tru (se_methD (c := 3) (ok_Plan_has T) 0 (by simp) (fun _ _ => .nil) (hr.mono (by decide)) (takes_of rfl rfl rfl rfl) (by exact T.m_Plan) T.cl_Plan T.me_Plan_has (by decide +kernel) (se_var (pv 0)) (sa_cons (se_var (pv 3)) sa_nil)) (fun _ => rfl))) (sw_or1 (sb_cmp op_in_seq fits_inL (se_var (pv 3)) (se_var (pv 2)) (by rfl))))) (ss_one (ss_raiseF (xd_NoDeed T) rfl rfl rfl (takes_of rfl rfl rfl rfl) (hr.mono (by decide)) (by rfl) T.m_NoDeed (sa_cons (se_var (pv 3)) sa_nil))) ss_nil) (ss_one (ss_drop (se_bm PySem.F.plainAttrs_list PySem.F.slot_list_append PySem.F.type_list_append mt_append fits_app (by decide) (se_var (pv 2)) (sa_cons (se_var (pv 3)) sa_nil)))))) (ss_one (ss_ret (se_makeD (ci := 3) (ok_Plan_init T) 1 (by simp) (fun _ _ => .nil) (hr.mono (by decide)) (takes_of rfl rfl rfl rfl) (by exact T.m_Plan) T.mk_Plan (by rfl) T.m_Plan (sa_cons (se_callTy call_tuple_of fits_tuple (by rfl) T.n_tuple (by decide +kernel) (sa_cons (se_lc (own := [("index", 3), ("deed", 4)]) (t := (.many [3, 4])) rfl sc_Plan_without.nd (si_enum (by rfl) T.n_enumerate (sa_cons (se_fld (c := 3) (i := 0) (by exact T.m_Plan) T.cl_Plan T.na_Plan_kept rfl (by decide +kernel) (se_var (pv 0))) sa_nil)) (blkOk_by (by rfl)) (by decide) (fun _ _ _ _ _ => (pg_tup (by rfl) (pgs_cons (pg_name (i := 3) sc_Plan_without.nd rfl (by first | exact Or.inl rfl | exact Or.inr rfl)) (pgs_cons (pg_name (i := 4) sc_Plan_without.nd rfl (by first | exact Or.inl rfl | exact Or.inr rfl)) pgs_nil)))) (fun _ _ _ _ _ => (sts_one (sb_cmp op_notIn_seq fits_inL (se_var (pv 3)) (se_var (pv 2)) (by rfl)))) (fun _ _ _ _ _ => (se_var (pv 4))) (by intro _; rfl)) sa_nil)) sa_nil)))))))
theorem sc_Desk_change : FnScope ["self", "word", "rest", "index", "name"] ["self", "word", "rest"] (defScope s_Desk_change) := ⟨rfl, rfl, rfl, by decide +kernel, rfl, by decide +kernel, by decide +kernel⟩
theorem ok_Desk_change (T : Txt K mg) : DefOk P w K mg base 9 (ma K (ga K "Desk") "change") ["self", "word", "rest"] [] F_Desk_change := by
  refine def_ok (N := ["self", "word", "rest", "index", "name"]) (k := 8) (g := g_Desk_change) T.d_Desk_change sc_Desk_change (fun _ _ _ _ _ _ us hl => match us, hl with | [_, _, _], _ => rfl) ?_
  intro cdv A outer s H E hr
  exact (ss_cons (ss_if (sb_cmp (op_eqP hr.units) fits_eq (se_var (pv 1)) se_str (nomark _)) (ss_one (ss_ret (se_methD (c := 7) (ok_Desk_put_deed T) 0 (by simp) (fun _ _ => .nil) (hr.mono (by decide)) (takes_of rfl rfl rfl rfl) (by exact T.m_Desk) T.cl_Desk T.me_Desk_put_deed (by decide +kernel) (se_var (pv 0)) (sa_cons (se_callD (ok_read_deed T) 0 (by simp) (fun _ _ => .nil) (hr.mono (by decide)) (takes_of rfl rfl rfl rfl) (by rfl) T.m_read_deed (sa_cons (se_var (pv 2)) sa_nil)) sa_nil)))) ss_nil) (ss_cons (ss_if (sb_cmp (op_eqP hr.units) fits_eq (se_var (pv 1)) se_str (nomark _)) (ss_cons (ss_set (i := 3) sc_Desk_change.nd rfl (by first | exact Or.inl rfl | exact Or.inr rfl) (se_callD (ok_number_of T) 0 (by simp) (fun _ _ => .nil) (hr.mono (by decide)) (takes_of rfl rfl rfl rfl) (by rfl) T.m_number_of (sa_cons (se_var (pv 2)) (sa_cons se_int (sa_cons (se_gint (by rfl) T.g_MOST_INDEX) sa_nil))))) (ss_cons (ss_if (sb_cmp op_ge fits_cmpI (se_var (pv 3)) (se_callS (CalS.lenO (c := 3) (ok_Plan_len T) rfl (hr.mono (by decide)) (takes_of rfl rfl rfl rfl) (by exact T.m_Plan) T.me_Plan_len (CalS.of call_lenA fits_len)) (by rfl) T.n_len (by decide +kernel) (sa_cons (se_fld (c := 7) (i := 0) (by exact T.m_Desk) T.cl_Desk T.na_Desk_sheet rfl (by decide +kernel) (se_var (pv 0))) sa_nil)) (nomark _)) (ss_one (ss_raiseF (xd_NoDeed T) rfl rfl rfl (takes_of rfl rfl rfl rfl) (hr.mono (by decide)) (by rfl) T.m_NoDeed (sa_cons (se_var (pv 3)) sa_nil))) ss_nil) (ss_one (ss_ret (se_methD (c := 7) (ok_Desk_turn_to T) 0 (by simp) (fun _ _ => .nil) (hr.mono (by decide)) (takes_of rfl rfl rfl rfl) (by exact T.m_Desk) T.cl_Desk T.me_Desk_turn_to (by decide +kernel) (se_var (pv 0)) (sa_cons (se_methD (c := 3) (ok_Plan_without T) 0 (by simp) (fun _ _ => .nil) (hr.mono (by decide)) (takes_of rfl rfl rfl rfl) (by exact T.m_Plan) T.cl_Plan T.me_Plan_without (by decide +kernel) (se_fld (c := 7) (i := 0) (by exact T.m_Desk) T.cl_Desk T.na_Desk_sheet rfl (by decide +kernel) (se_var (pv 0))) (sa_cons (se_tup (sa_cons (se_var (pv 3)) sa_nil)) sa_nil)) sa_nil)))))) ss_nil) (ss_cons (ss_set (i := 4) sc_Desk_change.nd rfl (by first | exact Or.inl rfl | exact Or.inr rfl) se_never) (ss_cons (ss_if (sb_cmp (op_eqP hr.units) fits_eq (se_var (pv 1)) se_str (nomark _)) (ss_one (ss_ret (se_methD (c := 7) (ok_Desk_turn_to T) 0 (by simp) (fun _ _ => .nil) (hr.mono (by decide)) (takes_of rfl rfl rfl rfl) (by exact T.m_Desk) T.cl_Desk T.me_Desk_turn_to (by decide +kernel) (se_var (pv 0)) (sa_cons se_never sa_nil)))) ss_nil) (ss_cons (ss_drop (se_meth0D (c := 7) (ok_Desk_remember T) 0 (by simp) (fun _ _ => .nil) (hr.mono (by decide)) (takes_of rfl rfl rfl rfl) (by exact T.m_Desk) T.cl_Desk T.me_Desk_remember (by decide +kernel) (se_var (pv 0)))) (ss_cons (ss_dput (Nat.lt_of_le_of_lt (Nat.add_le_add_left (by decide) _) hr.units) (se_fld (c := 7) (i := 1) (by exact T.m_Desk) T.cl_Desk T.na_Desk_shelf rfl (by decide +kernel) (se_var (pv 0))) (se_var (pv 4)) (se_fld (c := 7) (i := 0) (by exact T.m_Desk) T.cl_Desk T.na_Desk_sheet rfl (by decide +kernel) (se_var (pv 0)))) (ss_one (ss_ret se_str))))))))
theorem sc_Desk_order : FnScope ["self", "text", "word", "parted", "rest"] ["self", "text"] (defScope s_Desk_order) := ⟨rfl, rfl, rfl, by decide +kernel, rfl, by decide +kernel, by decide +kernel⟩
theorem ok_Desk_order (T : Txt K mg) : DefOk P w K mg base 12 (ma K (ga K "Desk") "order") ["self", "text"] [] F_Desk_order := by
  refine def_ok (N := ["self", "text", "word", "parted", "rest"]) (k := 11) (g := g_Desk_order) T.d_Desk_order sc_Desk_order (fun _ _ _ _ _ _ us hl => match us, hl with | [_, _], _ => rfl) ?_
  intro cdv A outer s H E hr
  exact (ss_cons (ss_if (sb_not (sb_tru (se_isi (by rfl) T.n_isinstance (se_var (pv 1)) (pe_bltn (v := .ty "str") (by rfl) T.n_str (by decide +kernel) rfl) (.ty _) tStr_ok trivial) (fun _ => rfl))) (ss_one (ss_raise (ci := 16) (xown_ok rfl T.m_NoOrder T.x_NoOrder) rfl rfl (takes_of rfl rfl rfl rfl) (by rfl))) ss_nil) (ss_cons (ss_asg (t := (.many [2, 3, 4])) (pg_tup (by rfl) (pgs_cons (pg_name (i := 2) sc_Desk_order.nd rfl (by first | exact Or.inl rfl | exact Or.inr rfl)) (pgs_cons (pg_name (i := 3) sc_Desk_order.nd rfl (by first | exact Or.inl rfl | exact Or.inr rfl)) (pgs_cons (pg_name (i := 4) sc_Desk_order.nd rfl (by first | exact Or.inl rfl | exact Or.inr rfl)) pgs_nil)))) (se_bm PySem.F.plainAttrs_str PySem.F.slot_str_partition PySem.F.type_str_partition mt_partition fits_part (by decide) (se_var (pv 1)) (sa_cons se_str sa_nil))) (ss_cons (ss_if (sb_not (sb_tru (se_var (pv 3)) (fun _ => rfl))) (ss_one (ss_ret (se_methD (c := 7) (ok_Desk_alone T) 0 (by simp) (fun _ _ => .nil) (hr.mono (by decide)) (takes_of rfl rfl rfl rfl) (by exact T.m_Desk) T.cl_Desk T.me_Desk_alone (by decide +kernel) (se_var (pv 0)) (sa_cons (se_var (pv 2)) sa_nil)))) ss_nil) (ss_cons (ss_if (sb_cmp op_in_seq fits_inL (se_var (pv 2)) (se_tup (sa_cons se_str (sa_cons se_str (sa_cons se_str (sa_cons se_str sa_nil))))) (by rfl)) (ss_one (ss_ret (se_methD (c := 7) (ok_Desk_change T) 0 (by simp) (fun _ _ => .nil) (hr.mono (by decide)) (takes_of rfl rfl rfl rfl) (by exact T.m_Desk) T.cl_Desk T.me_Desk_change (by decide +kernel) (se_var (pv 0)) (sa_cons (se_var (pv 2)) (sa_cons (se_var (pv 4)) sa_nil))))) ss_nil) (ss_one (ss_ret se_never))))))
theorem sc_law_told : FnScope ["_law_desk", "_law_order", "_law_found", "e"] ["_law_desk", "_law_order"] (defScope s_law_told) := ⟨rfl, rfl, rfl, by decide +kernel, rfl, by decide +kernel, by decide +kernel⟩
theorem ok_law_told (T : Txt K mg) : DefOk P w K mg base 13 (ga K "_law_told") ["_law_desk", "_law_order"] [] F_law_told := by
  refine def_ok (N := ["_law_desk", "_law_order", "_law_found", "e"]) (k := 12) (g := g_law_told) T.d_law_told sc_law_told (fun _ _ _ _ _ _ us hl => match us, hl with | [_, _], _ => rfl) ?_
  intro cdv A outer s H E hr
  exact (ss_cons (ss_tryM rfl rfl sc_law_told.nd (takes_of rfl rfl rfl rfl) (fun W' pn xe tkB hpB => (ss_one (ss_set (i := 2) sc_law_told.nd rfl (by first | exact Or.inl rfl | exact Or.inr rfl) (se_methD (c := 7) (ok_Desk_order T) 0 (by simp) (fun _ _ => .nil) (hr.mono (by decide)) tkB (by exact T.m_Desk) T.cl_Desk T.me_Desk_order (by decide +kernel) (se_var (pv 0)) (sa_cons (se_var (pv 1)) sa_nil))))) (.consO (xn := "NoRoom") (hc := (fun c => if c = 14 then some false else if c = 16 then some false else if c = 17 then some true else if c = 19 then some false else none)) (su := (sSet 2 (fLst (aCons (fC (.str "room")) aNil)))) ⟨by rfl, by decide, .inl T.m_NoRoom⟩ (by
      intro c b C h hm
      by_cases z0 : c = 14
      · subst z0
        simp at h
        subst h
        have hm' : mg "NothingToUndo" = some (.ref C) := hm
        rw [T.m_NothingToUndo] at hm'
        cases hm'
        exact T.xm_NothingToUndo_NoRoom
      by_cases z1 : c = 16
      · subst z1
        simp at h
        subst h
        have hm' : mg "NoOrder" = some (.ref C) := hm
        rw [T.m_NoOrder] at hm'
        cases hm'
        exact T.xm_NoOrder_NoRoom
      by_cases z2 : c = 17
      · subst z2
        simp at h
        subst h
        have hm' : mg "NoRoom" = some (.ref C) := hm
        rw [T.m_NoRoom] at hm'
        cases hm'
        exact T.xm_NoRoom_NoRoom
      by_cases z3 : c = 19
      · subst z3
        simp at h
        subst h
        have hm' : mg "NoDeed" = some (.ref C) := hm
        rw [T.m_NoDeed] at hm'
        cases hm'
        exact T.xm_NoDeed_NoRoom
      simp [z0, z1, z2, z3] at h) (fun a oe pn => (ss_one (ss_set (i := 2) sc_law_told.nd rfl (by first | exact Or.inl rfl | exact Or.inr rfl) (se_lst (sa_cons se_str sa_nil))))) (.consN (xn := "NoDeed") (hc := (fun c => if c = 14 then some false else if c = 16 then some false else if c = 17 then some false else if c = 19 then some true else none)) (c0 := 19) (i := 3) (fl := true) (su := fun o => (sSet 2 (fLst (aCons (fC (.str "deed")) (aCons (fXf 3 o) aNil))))) rfl rfl ⟨by rfl, by decide, .inl T.m_NoDeed⟩ (by
      intro c b C h hm
      by_cases z0 : c = 14
      · subst z0
        simp at h
        subst h
        have hm' : mg "NothingToUndo" = some (.ref C) := hm
        rw [T.m_NothingToUndo] at hm'
        cases hm'
        exact T.xm_NothingToUndo_NoDeed
      by_cases z1 : c = 16
      · subst z1
        simp at h
        subst h
        have hm' : mg "NoOrder" = some (.ref C) := hm
        rw [T.m_NoOrder] at hm'
        cases hm'
        exact T.xm_NoOrder_NoDeed
      by_cases z2 : c = 17
      · subst z2
        simp at h
        subst h
        have hm' : mg "NoRoom" = some (.ref C) := hm
        rw [T.m_NoRoom] at hm'
        cases hm'
        exact T.xm_NoRoom_NoDeed
      by_cases z3 : c = 19
      · subst z3
        simp at h
        subst h
        have hm' : mg "NoDeed" = some (.ref C) := hm
        rw [T.m_NoDeed] at hm'
        cases hm'
        exact T.xm_NoDeed_NoDeed
      simp [z0, z1, z2, z3] at h) (by
      intro a oe C d o pn hm hi hd hz hf
      have hm' : mg "NoDeed" = some (.ref C) := hm
      rw [T.m_NoDeed] at hm'
      cases hm'
      exact (ss_one (ss_set (i := 2) sc_law_told.nd rfl (by first | exact Or.inl rfl | exact Or.inr rfl) (se_lst (sa_cons se_str (sa_cons (se_xf (y := ⟨3, a, .ref _, d, 19, o⟩) rfl T.xf_NoDeed T.na_NoDeed_index rfl hz hf (pv 3)) sa_nil)))))) (.consO (xn := "NothingToUndo") (hc := (fun c => if c = 14 then some true else if c = 16 then some false else if c = 17 then some false else if c = 19 then some false else none)) (su := (sSet 2 (fLst (aCons (fC (.str "undo")) aNil)))) ⟨by rfl, by decide, .inl T.m_NothingToUndo⟩ (by
      intro c b C h hm
      by_cases z0 : c = 14
      · subst z0
        simp at h
        subst h
        have hm' : mg "NothingToUndo" = some (.ref C) := hm
        rw [T.m_NothingToUndo] at hm'
        cases hm'
        exact T.xm_NothingToUndo_NothingToUndo
      by_cases z1 : c = 16
      · subst z1
        simp at h
        subst h
        have hm' : mg "NoOrder" = some (.ref C) := hm
        rw [T.m_NoOrder] at hm'
        cases hm'
        exact T.xm_NoOrder_NothingToUndo
      by_cases z2 : c = 17
      · subst z2
        simp at h
        subst h
        have hm' : mg "NoRoom" = some (.ref C) := hm
        rw [T.m_NoRoom] at hm'
        cases hm'
        exact T.xm_NoRoom_NothingToUndo
      by_cases z3 : c = 19
      · subst z3
        simp at h
        subst h
        have hm' : mg "NoDeed" = some (.ref C) := hm
        rw [T.m_NoDeed] at hm'
        cases hm'
        exact T.xm_NoDeed_NothingToUndo
      simp [z0, z1, z2, z3] at h) (fun a oe pn => (ss_one (ss_set (i := 2) sc_law_told.nd rfl (by first | exact Or.inl rfl | exact Or.inr rfl) (se_lst (sa_cons se_str sa_nil))))) .nil)))) (ss_one (ss_ret (se_var (pv 2)))))
theorem sc_law : FnScope ["_law_script", "_law_desk", "_law_row", "_law_past", "_law_k", "_law_pot_here", "_law_lap", "_law_way", "_law_number", "_law_deed_here", "_law_words", "_law_due_here", "_law_told_here", "_law_last"] ["_law_script"] (defScope s_law) := ⟨rfl, rfl, rfl, by decide +kernel, rfl, by decide +kernel, by decide +kernel⟩
theorem bd_law (T : Txt K mg) : BodyOk P w K mg base ["_law_script", "_law_desk", "_law_row", "_law_past", "_law_k", "_law_pot_here", "_law_lap", "_law_way", "_law_number", "_law_deed_here", "_law_words", "_law_due_here", "_law_told_here", "_law_last"] "law" s_law (ga K "law") 13 g_law := by
  intro cdv A outer s H E hr
  exact (ss_cons (ss_par3 (i := 1) (j := 2) (l := 3) rfl sc_law.nd rfl rfl rfl (by decide) (by decide) (by decide) rfl rfl rfl (sa_cons (se_makeL0 (ci := 7) (ok_Desk_init T) 0 (by simp) (fun _ _ => .nil) (hr.mono (by decide)) (takes_of rfl rfl rfl rfl) (by exact T.m_Desk) T.mk_Desk (by rfl) T.m_Desk) (sa_cons (se_tup sa_nil) (sa_cons (se_new sa_nil) sa_nil))) (by rfl)) (ss_cons (ss_for (t := (.one 4)) (passes_of rfl) rfl (si_range1 (by rfl) T.n_range (sa_cons (se_callB (call_max2 rfl) fits_max (by rfl) T.n_max (by decide +kernel) (sa_cons se_int (sa_cons (se_callB (call_min2 rfl) fits_min (by rfl) T.n_min (by decide +kernel) (sa_cons se_int (sa_cons (se_callB call_lenA fits_len (by rfl) T.n_len (by decide +kernel) (sa_cons (se_var (pv 0)) sa_nil)) sa_nil))) sa_nil))) sa_nil)) (pg_name (i := 4) sc_law.nd rfl (by first | exact Or.inl rfl | exact Or.inr rfl)) (ss_cons (ss_set (i := 5) sc_law.nd rfl (by first | exact Or.inl rfl | exact Or.inr rfl) (se_callD (ok_law_pot T) 0 (by simp) (fun _ _ => .nil) (hr.mono (by decide)) (takes_of rfl rfl rfl rfl) (by rfl) T.m_law_pot (sa_cons (se_var (pv 0)) (sa_cons (se_var (pv 4)) sa_nil)))) (ss_one (ss_for (t := (.one 6)) (passes_of rfl) rfl (si_range1 (by rfl) T.n_range (sa_cons (se_bin op_addA fits_add se_int (se_callD (ok_law_dip T) 0 (by simp) (fun _ _ => .nil) (hr.mono (by decide)) (takes_of rfl rfl rfl rfl) (by rfl) T.m_law_dip (sa_cons (se_var (pv 5)) (sa_cons se_int sa_nil)))) sa_nil)) (pg_name (i := 6) sc_law.nd rfl (by first | exact Or.inl rfl | exact Or.inr rfl)) (ss_cons (ss_set (i := 7) sc_law.nd rfl (by first | exact Or.inl rfl | exact Or.inr rfl) (se_ix (se_lst (sa_cons se_str (sa_cons se_str (sa_cons se_str (sa_cons se_str (sa_cons se_str (sa_cons se_str (sa_cons se_str (sa_cons se_str (sa_cons se_str (sa_cons se_str sa_nil))))))))))) (se_callD (ok_law_dip T) 0 (by simp) (fun _ _ => .nil) (hr.mono (by decide)) (takes_of rfl rfl rfl rfl) (by rfl) T.m_law_dip (sa_cons (se_var (pv 5)) (sa_cons se_int sa_nil))) (fun _ _ => rfl))) (ss_cons (ss_if (sb_w (sw_and (sb_cmp (op_eqP hr.units) fits_eq (se_var (pv 7)) se_str (nomark _)) (sw_and1 (sb_cmp op_gt fits_cmpI (se_callD (ok_law_dip T) 0 (by simp) (fun _ _ => .nil) (hr.mono (by decide)) (takes_of rfl rfl rfl rfl) (by rfl) T.m_law_dip (sa_cons (se_var (pv 5)) (sa_cons se_int sa_nil))) se_int (nomark _))))) (ss_one (ss_set (i := 7) sc_law.nd rfl (by first | exact Or.inl rfl | exact Or.inr rfl) se_str)) ss_nil) (ss_cons (ss_par (i := 8) (j := 9) rfl sc_law.nd rfl rfl (by decide) rfl rfl (sa_cons (se_callD (ok_law_dip T) 0 (by simp) (fun _ _ => .nil) (hr.mono (by decide)) (takes_of rfl rfl rfl rfl) (by rfl) T.m_law_dip (sa_cons (se_var (pv 5)) (sa_cons (se_ix (se_lst (sa_cons (se_bin op_addA fits_add (se_callB call_lenA fits_len (by rfl) T.n_len (by decide +kernel) (sa_cons (se_var (pv 2)) sa_nil)) se_int) (sa_cons se_int sa_nil))) (se_callTy call_int1 fits_int (by rfl) T.n_int (by decide +kernel) (sa_cons (se_cmp (op_eqP hr.units) fits_eq (se_callD (ok_law_dip T) 0 (by simp) (fun _ _ => .nil) (hr.mono (by decide)) (takes_of rfl rfl rfl rfl) (by rfl) T.m_law_dip (sa_cons (se_var (pv 5)) (sa_cons se_int sa_nil))) se_int (nomark _)) sa_nil)) (fun _ _ => rfl)) sa_nil))) (sa_cons (se_callD (ok_law_deed T) 0 (by simp) (fun _ _ => .nil) (hr.mono (by decide)) (takes_of rfl rfl rfl rfl) (by rfl) T.m_law_deed (sa_cons (se_var (pv 5)) sa_nil)) sa_nil)) (by rfl)) (ss_cons (ss_set (i := 10) sc_law.nd rfl (by first | exact Or.inl rfl | exact Or.inr rfl) (se_disp (.cons se_str (se_bin op_addA fits_add se_str (se_callD (ok_law_line T) 0 (by simp) (fun _ _ => .nil) (hr.mono (by decide)) (takes_of rfl rfl rfl rfl) (by rfl) T.m_law_line (sa_cons (se_var (pv 9)) sa_nil))) (.cons se_str (se_bin op_addA fits_add se_str (se_callTy call_strA fits_str (by rfl) T.n_str (by decide +kernel) (sa_cons (se_var (pv 8)) sa_nil))) .nil)) rfl rfl (by simp) (by decide))) (ss_cons (ss_asg (t := (.many [11, 2])) (pg_tup (by rfl) (pgs_cons (pg_name (i := 11) sc_law.nd rfl (by first | exact Or.inl rfl | exact Or.inr rfl)) (pgs_cons (pg_name (i := 2) sc_law.nd rfl (by first | exact Or.inl rfl | exact Or.inr rfl)) pgs_nil))) (se_callD (ok_law_due T) 0 (by simp) (fun _ _ => .nil) (hr.mono (by decide)) (takes_of rfl rfl rfl rfl) (by rfl) T.m_law_due (sa_cons (se_var (pv 3)) (sa_cons (se_var (pv 2)) (sa_cons (se_var (pv 7)) (sa_cons (se_var (pv 8)) (sa_cons (se_var (pv 9)) sa_nil))))))) (ss_cons (ss_set (i := 12) sc_law.nd rfl (by first | exact Or.inl rfl | exact Or.inr rfl) (se_callD (ok_law_told T) 0 (by simp) (fun _ _ => .nil) (hr.mono (by decide)) (takes_of rfl rfl rfl rfl) (by rfl) T.m_law_told (sa_cons (se_var (pv 1)) (sa_cons (se_get2 (Nat.lt_of_le_of_lt (Nat.add_le_add_left (by decide) _) hr.units) (se_var (pv 10)) (se_var (pv 7)) (se_var (pv 7)) ⟨rfl, rfl, rfl, rfl⟩) sa_nil)))) (ss_one (ss_if (sb_w (sw_or (sb_cmp (op_neP hr.units) fits_ne (se_var (pv 12)) (se_var (pv 11)) (nomark _)) (sw_or1 (sb_cmp (op_neP hr.units) fits_ne (se_isi (by rfl) T.n_isinstance (se_var (pv 12)) (pe_bltn (v := .ty "str") (by rfl) T.n_str (by decide +kernel) rfl) (.ty _) tStr_ok trivial) (se_isi (by rfl) T.n_isinstance (se_var (pv 11)) (pe_bltn (v := .ty "str") (by rfl) T.n_str (by decide +kernel) rfl) (.ty _) tStr_ok trivial) (nomark _))))) (ss_one (ss_ret se_bl)) ss_nil)))))))))))) (ss_cons (ss_set (i := 13) sc_law.nd rfl (by first | exact Or.inl rfl | exact Or.inr rfl) (se_if (sb_cmp (op_neP hr.units) fits_ne (se_var (pv 2)) (se_tup sa_nil) (nomark _)) (se_callD (ok_law_text T) 0 (by simp) (fun _ _ => .nil) (hr.mono (by decide)) (takes_of rfl rfl rfl rfl) (by rfl) T.m_law_text (sa_cons (se_var (pv 2)) sa_nil)) se_str)) (ss_one (ss_ret (se_and (se_cmp (op_eqP hr.units) fits_eq (se_methD (c := 7) (ok_Desk_order T) 0 (by simp) (fun _ _ => .nil) (hr.mono (by decide)) (takes_of rfl rfl rfl rfl) (by exact T.m_Desk) T.cl_Desk T.me_Desk_order (by decide +kernel) (se_var (pv 1)) (sa_cons se_str sa_nil)) (se_var (pv 13)) (nomark _)) (se_and (se_cmp (op_eqP hr.units) fits_eq (se_methK (c := 7) (ps := ["self", "text"]) (ks := ["text"]) ((ok_Desk_order T).kw (n := 1) (ks := ["text"]) (arr := [(0, 0), (2, 0)]) T.d_Desk_order (fun _ _ _ _ _ _ us ws h1 h2 => match us, ws, h1, h2 with | [_], [_], _, _ => rfl)) (fun _ _ => .nil) (hr.mono (by decide)) (takes_of rfl rfl rfl rfl) (by exact T.m_Desk) T.cl_Desk T.me_Desk_order (by decide +kernel) (se_var (pv 1)) (sk_cons se_str sk_nil)) (se_var (pv 13)) (nomark _)) (se_one (se_cmp (op_eqP hr.units) fits_eq (se_methD (c := 7) (ok_Desk_order T) 0 (by simp) (fun _ _ => .nil) (hr.mono (by decide)) (takes_of rfl rfl rfl rfl) (by exact T.m_Desk) T.cl_Desk T.me_Desk_order (by decide +kernel) (se_makeL0 (ci := 7) (ok_Desk_init T) 0 (by simp) (fun _ _ => .nil) (hr.mono (by decide)) (takes_of rfl rfl rfl rfl) (by exact T.m_Desk) T.mk_Desk (by rfl) T.m_Desk) (sa_cons se_str sa_nil)) se_str (nomark _))))))))))
end

def dd_NoDeed_init : DefD := ⟨("NoDeed", some "__init__"), "__init__", "NoDeed.__init__", defArgs s_NoDeed_init, defBody s_NoDeed_init, defScope s_NoDeed_init, [], []⟩
def dd_is_whole : DefD := ⟨("is_whole", none), "is_whole", "is_whole", defArgs s_is_whole, defBody s_is_whole, defScope s_is_whole, [], []⟩
def dd_is_length : DefD := ⟨("is_length", none), "is_length", "is_length", defArgs s_is_length, defBody s_is_length, defScope s_is_length, [], []⟩
def dd_is_window : DefD := ⟨("is_window", none), "is_window", "is_window", defArgs s_is_window, defBody s_is_window, defScope s_is_window, [], []⟩
def dd_is_thing : DefD := ⟨("is_thing", none), "is_thing", "is_thing", defArgs s_is_thing, defBody s_is_thing, defScope s_is_thing, [], []⟩
def dd_is_plain_deed : DefD := ⟨("is_plain_deed", none), "is_plain_deed", "is_plain_deed", defArgs s_is_plain_deed, defBody s_is_plain_deed, defScope s_is_plain_deed, [], []⟩
def dd_is_deed : DefD := ⟨("is_deed", none), "is_deed", "is_deed", defArgs s_is_deed, defBody s_is_deed, defScope s_is_deed, [], []⟩
def dd_Plan_init : DefD := ⟨("Plan", some "__init__"), "__init__", "Plan.__init__", defArgs s_Plan_init, defBody s_Plan_init, defScope s_Plan_init, [.adr (dflAt ("Plan", some "__init__") 0)], []⟩
def dd_Desk_init : DefD := ⟨("Desk", some "__init__"), "__init__", "Desk.__init__", defArgs s_Desk_init, defBody s_Desk_init, defScope s_Desk_init, [], []⟩
def dd_law_pot : DefD := ⟨("_law_pot", none), "_law_pot", "_law_pot", defArgs s_law_pot, defBody s_law_pot, defScope s_law_pot, [], []⟩
def dd_law_dip : DefD := ⟨("_law_dip", none), "_law_dip", "_law_dip", defArgs s_law_dip, defBody s_law_dip, defScope s_law_dip, [], []⟩
def dd_law_thing : DefD := ⟨("_law_thing", none), "_law_thing", "_law_thing", defArgs s_law_thing, defBody s_law_thing, defScope s_law_thing, [], []⟩
def dd_law_plain : DefD := ⟨("_law_plain", none), "_law_plain", "_law_plain", defArgs s_law_plain, defBody s_law_plain, defScope s_law_plain, [], []⟩
def dd_law_deed : DefD := ⟨("_law_deed", none), "_law_deed", "_law_deed", defArgs s_law_deed, defBody s_law_deed, defScope s_law_deed, [], []⟩
def dd_law_line : DefD := ⟨("_law_line", none), "_law_line", "_law_line", defArgs s_law_line, defBody s_law_line, defScope s_law_line, [], []⟩
def dd_law_text : DefD := ⟨("_law_text", none), "_law_text", "_law_text", defArgs s_law_text, defBody s_law_text, defScope s_law_text, [], []⟩
def dd_law_due : DefD := ⟨("_law_due", none), "_law_due", "_law_due", defArgs s_law_due, defBody s_law_due, defScope s_law_due, [], []⟩
def dd_Desk_remember : DefD := ⟨("Desk", some "remember"), "remember", "Desk.remember", defArgs s_Desk_remember, defBody s_Desk_remember, defScope s_Desk_remember, [], []⟩
def dd_Plan_len : DefD := ⟨("Plan", some "__len__"), "__len__", "Plan.__len__", defArgs s_Plan_len, defBody s_Plan_len, defScope s_Plan_len, [], []⟩
def dd_Desk_turn_to : DefD := ⟨("Desk", some "turn_to"), "turn_to", "Desk.turn_to", defArgs s_Desk_turn_to, defBody s_Desk_turn_to, defScope s_Desk_turn_to, [], []⟩
def dd_Plan_deeds : DefD := ⟨("Plan", some "deeds"), "deeds", "Plan.deeds", defArgs s_Plan_deeds, defBody s_Plan_deeds, defScope s_Plan_deeds, [], []⟩
def dd_deed_text : DefD := ⟨("deed_text", none), "deed_text", "deed_text", defArgs s_deed_text, defBody s_deed_text, defScope s_deed_text, [], []⟩
def dd_plan_text : DefD := ⟨("plan_text", none), "plan_text", "plan_text", defArgs s_plan_text, defBody s_plan_text, defScope s_plan_text, [], []⟩
def dd_Desk_undo : DefD := ⟨("Desk", some "undo"), "undo", "Desk.undo", defArgs s_Desk_undo, defBody s_Desk_undo, defScope s_Desk_undo, [], []⟩
def dd_Desk_alone : DefD := ⟨("Desk", some "alone"), "alone", "Desk.alone", defArgs s_Desk_alone, defBody s_Desk_alone, defScope s_Desk_alone, [], []⟩
def dd_Plan_add : DefD := ⟨("Plan", some "__add__"), "__add__", "Plan.__add__", defArgs s_Plan_add, defBody s_Plan_add, defScope s_Plan_add, [], []⟩
def dd_Desk_put_deed : DefD := ⟨("Desk", some "put_deed"), "put_deed", "Desk.put_deed", defArgs s_Desk_put_deed, defBody s_Desk_put_deed, defScope s_Desk_put_deed, [], []⟩
def dd_read_number : DefD := ⟨("read_number", none), "read_number", "read_number", defArgs s_read_number, defBody s_read_number, defScope s_read_number, [], []⟩
def dd_read_plain : DefD := ⟨("read_plain", none), "read_plain", "read_plain", defArgs s_read_plain, defBody s_read_plain, defScope s_read_plain, [], []⟩
def dd_read_deed : DefD := ⟨("read_deed", none), "read_deed", "read_deed", defArgs s_read_deed, defBody s_read_deed, defScope s_read_deed, [], []⟩
def dd_number_of : DefD := ⟨("number_of", none), "number_of", "number_of", defArgs s_number_of, defBody s_number_of, defScope s_number_of, [], []⟩
def dd_Plan_has : DefD := ⟨("Plan", some "has"), "has", "Plan.has", defArgs s_Plan_has, defBody s_Plan_has, defScope s_Plan_has, [], []⟩
def dd_Plan_without : DefD := ⟨("Plan", some "without"), "without", "Plan.without", defArgs s_Plan_without, defBody s_Plan_without, defScope s_Plan_without, [], []⟩
def dd_Desk_change : DefD := ⟨("Desk", some "change"), "change", "Desk.change", defArgs s_Desk_change, defBody s_Desk_change, defScope s_Desk_change, [], []⟩
def dd_Desk_order : DefD := ⟨("Desk", some "order"), "order", "Desk.order", defArgs s_Desk_order, defBody s_Desk_order, defScope s_Desk_order, [], []⟩
def dd_law_told : DefD := ⟨("_law_told", none), "_law_told", "_law_told", defArgs s_law_told, defBody s_law_told, defScope s_law_told, [], []⟩
def dd_law : DefD := ⟨("law", none), "law", "law", defArgs s_law, defBody s_law, defScope s_law, [], []⟩
def fn : List DefD := [dd_NoDeed_init, dd_is_whole, dd_is_length, dd_is_window, dd_is_thing, dd_is_plain_deed, dd_is_deed, dd_Plan_init, dd_Desk_init, dd_law_pot, dd_law_dip, dd_law_thing, dd_law_plain, dd_law_deed, dd_law_line, dd_law_text, dd_law_due, dd_Desk_remember, dd_Plan_len, dd_Desk_turn_to, dd_Plan_deeds, dd_deed_text, dd_plan_text, dd_Desk_undo, dd_Desk_alone, dd_Plan_add, dd_Desk_put_deed, dd_read_number, dd_read_plain, dd_read_deed, dd_number_of, dd_Plan_has, dd_Plan_without, dd_Desk_change, dd_Desk_order, dd_law_told, dd_law]
def fx : List (PySem.W.Frag → Bool) := [bFree "tuple", bFree "isinstance", bOex "NoDeed", bNoat "NoDeed" "index", bGlo "NoDeed", bFree "enumerate", fun K => (Fa.int "MOST_DEEDS" (12)).ok K, bFree "len", bFree "str", bFree "int", bFree "bool", bGlo "is_whole", fun K => (Fa.int "GREATEST_PULL" (40)).ok K, bGlo "is_length", fun K => tupB K "WINDOWS" [.str "near", .str "far"], bGlo "WINDOWS", bGlo "is_window", fun K => (Fa.int "LONGEST_THING" (8)).ok K, fun K => (Fa.str "LETTERS" "abcdefghijklmnopqrstuvwxyz").ok K, bFree "all", bGlo "is_thing", fun K => (Fa.int "GREATEST_STEP" (6)).ok K, bGlo "is_plain_deed", bGlo "is_deed", bGlo "Plan", bCls "Plan", bNoat "Plan" "kept", nilB (dflAt ("Plan", some "__init__") 0), bMkr "Plan", bGlo "Desk", bCls "Desk", bNoat "Desk" "sheet", bNoat "Desk" "shelf", bNoat "Desk" "past", bMkr "Desk", bFree "min", bFree "max", bFree "range", bFree "abs", bGlo "_law_pot", bGlo "_law_dip", bGlo "_law_thing", bGlo "_law_plain", bGlo "_law_deed", bGlo "_law_line", bGlo "_law_text", bGlo "_law_due", bGlo "NoOrder", bExc "NoOrder", bFree "dict", bMeth "Desk" "remember", bMeth "Plan" "__len__", bMeth "Desk" "turn_to", bMeth "Plan" "deeds", bGlo "deed_text", bGlo "plan_text", bGlo "NothingToUndo", bExc "NothingToUndo", bMeth "Desk" "undo", bMeth "Desk" "alone", bGlo "NoRoom", bExc "NoRoom", bMeth "Plan" "__add__", bSelf "Plan", bGlo "read_number", bGlo "read_plain", bGlo "read_deed", bMeth "Desk" "put_deed", fun K => (Fa.int "MOST_INDEX" (99)).ok K, bGlo "number_of", bMeth "Plan" "has", bMeth "Plan" "without", bMeth "Desk" "change", bMeth "Desk" "order", bExm "NothingToUndo" "NoRoom" false, bExm "NoOrder" "NoRoom" false, bExm "NoRoom" "NoRoom" true, bExm "NoDeed" "NoRoom" false, bExm "NothingToUndo" "NoDeed" false, bExm "NoOrder" "NoDeed" false, bExm "NoRoom" "NoDeed" false, bExm "NoDeed" "NoDeed" true, fun K => xfB K (ga K "NoDeed"), bExm "NothingToUndo" "NothingToUndo" true, bExm "NoOrder" "NothingToUndo" false, bExm "NoRoom" "NothingToUndo" false, bExm "NoDeed" "NothingToUndo" false, bGlo "_law_told", bGlo "law"]
theorem txt {K : PySem.W.Frag} {h : Heap} {mg : Str → Option Value} (KX : K.In h) (G : h.Ns mainGlobals mg) (c : obsS fx fn K = valS fn) : Txt K mg where
  n_tuple := free_ok KX G (sFact c 0)
  n_isinstance := free_ok KX G (sFact c 1)
  ox_NoDeed := oex_ok (sFact c 2)
  na_NoDeed_index := noat_ok (sFact c 3)
  d_NoDeed_init := sDef c 0 (d := dd_NoDeed_init) rfl
  m_NoDeed := glo_ok KX G (sFact c 4)
  n_enumerate := free_ok KX G (sFact c 5)
  g_MOST_DEEDS := int_ok KX G (sFact c 6)
  n_len := free_ok KX G (sFact c 7)
  n_str := free_ok KX G (sFact c 8)
  n_int := free_ok KX G (sFact c 9)
  n_bool := free_ok KX G (sFact c 10)
  d_is_whole := sDef c 1 (d := dd_is_whole) rfl
  m_is_whole := glo_ok KX G (sFact c 11)
  d_is_length := sDef c 2 (d := dd_is_length) rfl
  g_GREATEST_PULL := int_ok KX G (sFact c 12)
  m_is_length := glo_ok KX G (sFact c 13)
  gt_WINDOWS := sFact c 14
  m_WINDOWS := glo_ok KX G (sFact c 15)
  d_is_window := sDef c 3 (d := dd_is_window) rfl
  m_is_window := glo_ok KX G (sFact c 16)
  g_LONGEST_THING := int_ok KX G (sFact c 17)
  g_LETTERS := str_ok KX G (sFact c 18)
  n_all := free_ok KX G (sFact c 19)
  d_is_thing := sDef c 4 (d := dd_is_thing) rfl
  m_is_thing := glo_ok KX G (sFact c 20)
  g_GREATEST_STEP := int_ok KX G (sFact c 21)
  d_is_plain_deed := sDef c 5 (d := dd_is_plain_deed) rfl
  m_is_plain_deed := glo_ok KX G (sFact c 22)
  d_is_deed := sDef c 6 (d := dd_is_deed) rfl
  m_is_deed := glo_ok KX G (sFact c 23)
  m_Plan := glo_ok KX G (sFact c 24)
  cl_Plan := cls_ok (sFact c 25)
  na_Plan_kept := noat_ok (sFact c 26)
  nd_Plan_init_0 := sFact c 27
  d_Plan_init := sDef c 7 (d := dd_Plan_init) rfl
  mk_Plan := mkr_ok (sFact c 28)
  m_Desk := glo_ok KX G (sFact c 29)
  cl_Desk := cls_ok (sFact c 30)
  na_Desk_sheet := noat_ok (sFact c 31)
  na_Desk_shelf := noat_ok (sFact c 32)
  na_Desk_past := noat_ok (sFact c 33)
  d_Desk_init := sDef c 8 (d := dd_Desk_init) rfl
  mk_Desk := mkr_ok (sFact c 34)
  n_min := free_ok KX G (sFact c 35)
  n_max := free_ok KX G (sFact c 36)
  n_range := free_ok KX G (sFact c 37)
  n_abs := free_ok KX G (sFact c 38)
  d_law_pot := sDef c 9 (d := dd_law_pot) rfl
  m_law_pot := glo_ok KX G (sFact c 39)
  d_law_dip := sDef c 10 (d := dd_law_dip) rfl
  m_law_dip := glo_ok KX G (sFact c 40)
  d_law_thing := sDef c 11 (d := dd_law_thing) rfl
  m_law_thing := glo_ok KX G (sFact c 41)
  d_law_plain := sDef c 12 (d := dd_law_plain) rfl
  m_law_plain := glo_ok KX G (sFact c 42)
  d_law_deed := sDef c 13 (d := dd_law_deed) rfl
  m_law_deed := glo_ok KX G (sFact c 43)
  m_law_line := glo_ok KX G (sFact c 44)
  d_law_line := sDef c 14 (d := dd_law_line) rfl
  d_law_text := sDef c 15 (d := dd_law_text) rfl
  m_law_text := glo_ok KX G (sFact c 45)
  d_law_due := sDef c 16 (d := dd_law_due) rfl
  m_law_due := glo_ok KX G (sFact c 46)
  m_NoOrder := glo_ok KX G (sFact c 47)
  x_NoOrder := sFact c 48
  n_dict := free_ok KX G (sFact c 49)
  d_Desk_remember := sDef c 17 (d := dd_Desk_remember) rfl
  me_Desk_remember := meth_ok (sFact c 50)
  d_Plan_len := sDef c 18 (d := dd_Plan_len) rfl
  me_Plan_len := meth_ok (sFact c 51)
  d_Desk_turn_to := sDef c 19 (d := dd_Desk_turn_to) rfl
  me_Desk_turn_to := meth_ok (sFact c 52)
  d_Plan_deeds := sDef c 20 (d := dd_Plan_deeds) rfl
  me_Plan_deeds := meth_ok (sFact c 53)
  m_deed_text := glo_ok KX G (sFact c 54)
  d_deed_text := sDef c 21 (d := dd_deed_text) rfl
  d_plan_text := sDef c 22 (d := dd_plan_text) rfl
  m_plan_text := glo_ok KX G (sFact c 55)
  m_NothingToUndo := glo_ok KX G (sFact c 56)
  x_NothingToUndo := sFact c 57
  d_Desk_undo := sDef c 23 (d := dd_Desk_undo) rfl
  me_Desk_undo := meth_ok (sFact c 58)
  d_Desk_alone := sDef c 24 (d := dd_Desk_alone) rfl
  me_Desk_alone := meth_ok (sFact c 59)
  m_NoRoom := glo_ok KX G (sFact c 60)
  x_NoRoom := sFact c 61
  d_Plan_add := sDef c 25 (d := dd_Plan_add) rfl
  me_Plan_add := meth_ok (sFact c 62)
  sf_Plan := self_ok (sFact c 63)
  d_Desk_put_deed := sDef c 26 (d := dd_Desk_put_deed) rfl
  d_read_number := sDef c 27 (d := dd_read_number) rfl
  m_read_number := glo_ok KX G (sFact c 64)
  d_read_plain := sDef c 28 (d := dd_read_plain) rfl
  m_read_plain := glo_ok KX G (sFact c 65)
  d_read_deed := sDef c 29 (d := dd_read_deed) rfl
  m_read_deed := glo_ok KX G (sFact c 66)
  me_Desk_put_deed := meth_ok (sFact c 67)
  d_number_of := sDef c 30 (d := dd_number_of) rfl
  g_MOST_INDEX := int_ok KX G (sFact c 68)
  m_number_of := glo_ok KX G (sFact c 69)
  d_Plan_has := sDef c 31 (d := dd_Plan_has) rfl
  me_Plan_has := meth_ok (sFact c 70)
  d_Plan_without := sDef c 32 (d := dd_Plan_without) rfl
  me_Plan_without := meth_ok (sFact c 71)
  d_Desk_change := sDef c 33 (d := dd_Desk_change) rfl
  me_Desk_change := meth_ok (sFact c 72)
  d_Desk_order := sDef c 34 (d := dd_Desk_order) rfl
  me_Desk_order := meth_ok (sFact c 73)
  xm_NothingToUndo_NoRoom := exm_ok (sFact c 74)
  xm_NoOrder_NoRoom := exm_ok (sFact c 75)
  xm_NoRoom_NoRoom := exm_ok (sFact c 76)
  xm_NoDeed_NoRoom := exm_ok (sFact c 77)
  xm_NothingToUndo_NoDeed := exm_ok (sFact c 78)
  xm_NoOrder_NoDeed := exm_ok (sFact c 79)
  xm_NoRoom_NoDeed := exm_ok (sFact c 80)
  xm_NoDeed_NoDeed := exm_ok (sFact c 81)
  xf_NoDeed := xfB_ok (sFact c 82)
  xm_NothingToUndo_NothingToUndo := exm_ok (sFact c 83)
  xm_NoOrder_NothingToUndo := exm_ok (sFact c 84)
  xm_NoRoom_NothingToUndo := exm_ok (sFact c 85)
  xm_NoDeed_NothingToUndo := exm_ok (sFact c 86)
  d_law_told := sDef c 35 (d := dd_law_told) rfl
  m_law_told := glo_ok KX G (sFact c 87)
  d_law := sDef c 36 (d := dd_law) rfl
  m_law := glo_ok KX G (sFact c 88)
end Law
namespace Law
open PySem PySem.Spec PyProof.Rows L2 Sh He
def loose0 : List Str := ["_wall", "LineError", "NoForm", "NoDistance", "NoModulus", "NoClasses", "NoChanged", "NoLimit", "NothingToUndo", "NoName", "NoOrder", "NoRoom", "NotWhole", "NoDeed", "LETTERS", "WINDOWS", "LONGEST_THING", "GREATEST_DISTANCE", "GREATEST_PULL", "GREATEST_STEP"]
def loose1 : List Str := ["is_whole", "is_thing", "is_window", "is_distance", "is_length", "is_plain_deed", "is_deed", "common_divisor", "common_multiple", "Form", "form_of", "parts_of", "sign_of", "is_worth", "is_same", "LineWork", "told_of", "check_distance", "run", "MOST_MODULUS"]
def loose2 : List Str := ["UNION", "COMMON", "WITHOUT", "IN_ONE", "prime_divisors", "is_periodic", "least_period", "sums_of", "Plainest", "checked", "joined", "Distances", "inner", "modulus_of", "bound_of", "moved", "Story", "story_of", "rows_of", "is_row"]
def loose3 : List Str := ["start_of", "stories", "set_of", "fails", "failing_of", "failing", "check_index", "carrying_of", "is_carried", "carrying", "meets", "same_of", "set_from", "told_same", "is_told_same", "alike_at", "told_apart", "MOST_DEEDS", "Plan", "read_number"]
def loose4 : List Str := ["deed_text", "plan_text", "read_plain", "read_deed", "sum_text", "form_text", "numbers_text", "set_text", "MOST_DISTANCE", "MOST_INDEX", "worded", "number_of", "name_of", "Desk", "_law_pot", "_law_dip", "_law_thing", "_law_plain", "_law_deed", "_law_deeds"]
def loose5 : List Str := ["_law_line", "_law_text", "_law_told", "_law_due"]
def loose : List Str := loose0 ++ loose1 ++ loose2 ++ loose3 ++ loose4 ++ loose5
abbrev R : PySem.W.OpenRow := PySem.W.OpenLaw.row PySem.Challenge.rw_roundline_k80_plans_at_the_desk
abbrev hk : PySem.W.Hook := hookF 5 fx fn
def ob (s : PySem.W.SharedT) : AlS := obsFG 5 fx fn (HandSHeadRun.getT s)
theorem ob_eq (s : PySem.W.SharedT) : ob s = hk.obs s.abs := obsFG_eq (HandSHeadRun.getT_eq s)
theorem run3 {α β γ δ : Type} {o : Option δ} {a : δ → α} {b : δ → β} {c : δ → γ} {x : α} {y : β} {z : γ} (h1 : o.map a = some x) (h2 : o.map b = some y) (h3 : o.map c = some z) : o.map (fun s => (a s, b s, c s)) = some (x, y, z) := by
  cases o with
  | none => cases h1
  | some s =>
    simp only [Option.map_some, Option.some.injEq] at h1 h2 h3 ⊢
    rw [h1, h2, h3]
def Kof (s : PySem.W.SharedT) : PySem.W.Frag := frG (HandSHeadRun.getT s) (asF (HandSHeadRun.getT s) 5 [mainGlobals])
theorem map_all {δ : Type} {o : Option δ} {k : δ → PySem.W.Frag} {fn : List DefD} {f1 : List (PySem.W.Frag → Bool)} (h1 : o.map (fun s => f1.all fun f => f (k s)) = some true) (h4 : o.map (fun s => obsS [] fn (k s)) = some (valS fn)) : o.map (fun s => obsS f1 fn (k s)) = some (valS fn) := by
  cases o with
  | none => cases h1
  | some s =>
    simp only [Option.map_some, Option.some.injEq] at h1 h4 ⊢
    rw [← h4]
    unfold obsS
    rw [h1]
    rfl
open PySem.W HandSHeadRun in
noncomputable abbrev eO (w : World) (os : OsState) : Option PySem.W.SharedT := endF (stepQ (denQ tabQ) R.prog w) 40000 R.prog w os
open PySem.W HandSHeadRun in
theorem q1 (w : World) (os : OsState) : (eO w os).map (fun s => looksF R.prog (boot_heap w.params) s.abs) = some true := by
  kernel_rfl
open PySem.W HandSHeadRun in
theorem q2 (w : World) (os : OsState) : (eO w os).map (fun s => seenQ (PySem.W.view R.prog [117]) loose (importedModules R.prog.main.body) (fun s => xlAt (PySem.W.view R.prog [117]) [] s && recOk R.toRowW.records s) s.abs) = some (openGood (PySem.W.view R.prog [117]) loose) := by
  kernel_rfl
theorem q3 (w : World) (os : OsState) : (eO w os).map (fun s => fx.all fun f => f (Kof s)) = some true := by
  kernel_rfl
theorem q6 (w : World) (os : OsState) : (eO w os).map (fun s => obsS [] fn (Kof s)) = some (valS fn) := by
  kernel_rfl
theorem run (w : World) : HandSHeadRun.RunEq R (PySem.W.view R.prog [117]) hk ob 40000 loose w := fun os => run3 (q1 w os) (q2 w os) (map_all (q3 w os) (q6 w os))
end Law
open PySem PySem.W PySem.Calls PyProof.Rows
theorem PySem.Challenge.cw_roundline_k80_plans_at_the_desk_holds : PySem.Challenge.rw_roundline_k80_plans_at_the_desk.Holds := by
  w_on; o_law
  refine HandSHeadRun.head_any (r := OpenLaw.row PySem.Challenge.rw_roundline_k80_plans_at_the_desk) (q := view (OpenLaw.row PySem.Challenge.rw_roundline_k80_plans_at_the_desk).prog [117]) (H := Law.hk) (ob := Law.ob) (M := 40000) (loose := Law.loose) (d := HandSHeadRun.topDef (OpenLaw.row PySem.Challenge.rw_roundline_k80_plans_at_the_desk).prog 117) (kwd := []) Law.ob_eq
    (by kernel_rfl) (fun s => by kernel_rfl) Law.run (by kernel_rfl) (by kernel_rfl) (by kernel_rfl) (by rfl) (by first | assumption | decide +kernel) (by decide +kernel) ⟨rfl, rfl, rfl, rfl, rfl, by decide +kernel⟩ ?hw ?hc
  case hw => w_witness2
  case hc =>
    refine L2.walk_ofE (l := PySem.Challenge.rw_roundline_k80_plans_at_the_desk) (n := 63) (k := 14) (x := "_law_script") (CX := L2.CX0) rfl (by decide) (by kernel_rfl) ⟨rfl, by decide, by decide⟩ ?F (fun _ _ _ _ z => z)
    intro w mg fa h Y G hmg0
    obtain ⟨K, KX, c⟩ := Y
    have T : Law.Txt K mg := Law.txt KX G c
    have hmg : mg ("law" : PySem.Str) = some (.ref fa) := by
      have e : (HandSHeadRun.topDef (OpenLaw.row PySem.Challenge.rw_roundline_k80_plans_at_the_desk).prog 117).name = ("law" : PySem.Str) := by kernel_rfl
      rw [← e]
      exact hmg0
    have e := hmg.symm.trans T.m_law
    cases e
    obtain ⟨fd, hb, hF⟩ := Sh.law_facts (P := (PySem.Challenge.rw_roundline_k80_plans_at_the_desk).prog) (w := w) (mg := mg) T.d_law Law.sc_law (fun base => Law.bd_law T) Law.law_true (fun _ _ _ _ _ _ us hl => match us, hl with | [_], _ => rfl)
    exact ⟨K, fd, Sh.spLaw K, KX, hb, fun H a ns hl _ hS => ⟨a, ns, rfl, hS, hl, fun _ => rfl⟩, fun base _ _ => hF base⟩
