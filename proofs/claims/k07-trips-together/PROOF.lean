import PyProof.Rows.All
import Wide.All
import OpenK.AllK
import Wide.FinOn
import HandS.ForMost
import HandS.Exc
import HandS.TupMul
import HandS.Wide
import HandS.TupAny
import HandS.IsInst
import HandS.Deep
import HandS.SortInts
import HandS.Conv
import HandS.Iter
import HandS.SetKeys
import HandS.Style
import HandS.TupSets
import HandS.SortOrd
import PyProof.TupleOfSeq
import KE.GoesMore
import KE.GoesEnum
import HandS.Zip
import HandS.Comp
import HandS.NoneIn
import HandS.Small
import HandS.Flow
import PyProof.ListRange
import KE.KDictZip
import KE.KItemsList
import HandS.ListItems
import KE.KRevSl
import HandS.SetFor
import HandS.Strs
import KE.KExcSuper
import HandS.ExcInit
import HandS.ExcOwn
import HandS.TryMany
import HandS.ExcField
import HandS.ExcIs
import KE.KExcIs
import HandS.EndBits
import PySem.Challenge.RW_suretrips_k07_whole_what_stands_in_trips
set_option Elab.async false
set_option maxRecDepth 100000
set_option linter.all false
/-! Lay, part A: values as trees, the small store, how both lie in the abstract heap. -/
namespace Lay
open PySem L2

/-- values: tup, lst, dct are trees that nobody changes; loc is a cell of the store; fr marks what was just made and is held by nobody else -/
inductive D where
  | non | bl (b : Bool) | int (i : Int) | str (x : Str) | ty (n : String)
  | tup (xs : List D) | lst (xs : List D) | fz (xs : List D) | dct (kvs : List (Key × D)) | loc (n : Nat) | fr (d : D)

inductive Cell where
  | lst (xs : List D)
  | dic (kvs : List (Key × D))
abbrev Mem := List Cell
abbrev Sl := List (Option D)
abbrev Kd := D → Mem → Prop

def shr : D → D
  | .fr d => d
  | d => d

/-- a list that nobody may write -/
def FzL (K : PySem.W.Frag) (H : Hp) (a : Addr) (xs : List V) : Prop :=
  (∃ o, H a = some (.frz o (.lst xs))) ∨
    ∃ (o : Obj) (its : Array Value) (n : Nat), K.lookup a = some o ∧ o.cls = .type "list" ∧ o.dict = none ∧ o.data = .seq its n ∧ its.size ≤ sizeLine ∧ Vals xs its.toList
theorem FzL.sq {K : PySem.W.Frag} {H : Hp} {a : Addr} {xs : List V} (h : FzL K H a xs) : SqL K H a xs := by
  rcases h with ⟨o, h⟩ | h
  · exact .inl (.inr ⟨o, h⟩)
  · exact .inr h
/-- addresses that values may not tell apart: the cells', in order; and hidden ones -/
structure Rg where
  l : List Addr
  h : List Addr
def Rg.no (ρ : Rg) (a : Addr) : Prop := a ∉ ρ.l ∧ a ∉ ρ.h
def Rg.add (ρ : Rg) (p : Addr) : Rg := ⟨ρ.l ++ [p], ρ.h⟩
def Rg.hide (ρ : Rg) (p : Addr) : Rg := ⟨ρ.l, p :: ρ.h⟩
/-! ### how a value lies in the abstract heap -/
section
variable (ρ : Rg) (K : PySem.W.Frag) (H : Hp)
mutual
inductive RD : D → V → Prop
  | non : RD .non .non
  | bl (b : Bool) : RD (.bl b) (.bl b)
  | int (i : Int) : RD (.int i) (.int i)
  | str (x : Str) : RD (.str x) (.str x)
  | ty (n : String) : RD (.ty n) (.ty n)
  | tup {a : Addr} {xs : List V} {ds : List D} : SqT K H a xs → RDs ds xs → RD (.tup ds) (.ref a)
  | lst {a : Addr} {xs : List V} {ds : List D} : H a = some (.lst xs) → ρ.no a → RDs ds xs → RD (.lst ds) (.ref a)
  | fz {a : Addr} {xs : List V} {ds : List D} : FzL K H a xs → RDs ds xs → RD (.fz ds) (.ref a)
  | dct {a : Addr} {kx : List (Key × V)} {ks : List (Key × D)} : H a = some (.dK kx) → ρ.no a → RDk ks kx → RD (.dct ks) (.ref a)
  | loc {n : Nat} {a : Addr} : ρ.l[n]? = some a → RD (.loc n) (.ref a)
inductive RDs : List D → List V → Prop
  | nil : RDs [] []
  | cons {d : D} {v : V} {ds : List D} {vs : List V} : RD d v → RDs ds vs → RDs (d :: ds) (v :: vs)
inductive RDk : List (Key × D) → List (Key × V) → Prop
  | nil : RDk [] []
  | cons {k : Key} {d : D} {v : V} {ds : List (Key × D)} {vs : List (Key × V)} : RD d v → RDk ds vs → RDk ((k, d) :: ds) ((k, v) :: vs)
end
/-- a cell's object -/
def RC : Cell → HO → Prop
  | .lst ds, o => ∃ xs, o = .lst xs ∧ RDs ρ K H ds xs
  | .dic ks, o => ∃ kx, o = .dK kx ∧ RDk ρ K H ks kx
end

def IsCell : HO → Prop
  | .lst _ => True
  | .dK _ => True
  | _ => False

structure Rel (K : PySem.W.Frag) (ρ : Rg) (M : Mem) (H : Hp) : Prop where
  nd : ρ.l.Nodup
  len : ρ.l.length = M.length
  cell : ∀ (n : Nat) (c : Cell) (a : Addr), M[n]? = some c → ρ.l[n]? = some a → ∃ o, H a = some o ∧ RC ρ K H c o
  hid : ∀ a ∈ ρ.h, ∃ o, H a = some o ∧ IsCell o
  apart : ∀ a ∈ ρ.l, a ∉ ρ.h

theorem RC.isCell {ρ : Rg} {K : PySem.W.Frag} {H : Hp} {c : Cell} {o : HO} (h : RC ρ K H c o) : IsCell o := by
  cases c with
  | lst ds => obtain ⟨xs, e, _⟩ := h; subst e; trivial
  | dic ds => obtain ⟨xs, e, _⟩ := h; subst e; trivial

/-- its addresses hold lists and dicts -/
def Rg.fine (ρ : Rg) (H : Hp) : Prop := ∀ a, (a ∈ ρ.l ∨ a ∈ ρ.h) → ∃ o, H a = some o ∧ IsCell o
theorem Rel.at {K : PySem.W.Frag} {ρ : Rg} {M : Mem} {H : Hp} (r : Rel K ρ M H) : ρ.fine H := fun a ha => by
  rcases ha with ha | ha
  · obtain ⟨n, hn⟩ := List.mem_iff_getElem?.mp ha
    have hl : n < M.length := by
      rw [← r.len]; exact (List.getElem?_eq_some_iff.mp hn).1
    obtain ⟨o, h1, h2⟩ := r.cell n M[n] a (by simp [hl]) hn
    exact ⟨o, h1, h2.isCell⟩
  · exact r.hid a ha

/-- from one heap to a later one -/
structure Ext (ρ : Rg) (H : Hp) (ρ' : Rg) (H' : Hp) : Prop where
  pre : ρ.l <+: ρ'.l
  hd : ρ'.h = ρ.h
  fresh : ∀ a ∈ ρ'.l, a ∉ ρ.l → H a = none
  keep : ∀ a o, H a = some o → a ∉ ρ.l → H' a = some o
  dom : ∀ a, H' a = none → H a = none

/-- .. where some may have been hidden meanwhile -/
structure Exw (ρ : Rg) (H : Hp) (ρ' : Rg) (H' : Hp) : Prop where
  pre : ρ.l <+: ρ'.l
  hd : ∀ a ∈ ρ'.h, a ∉ ρ.h → H a = none
  fresh : ∀ a ∈ ρ'.l, a ∉ ρ.l → H a = none
  keep : ∀ a o, H a = some o → a ∉ ρ.l → H' a = some o
  dom : ∀ a, H' a = none → H a = none
theorem Ext.w {ρ : Rg} {H : Hp} {ρ' : Rg} {H' : Hp} (x : Ext ρ H ρ' H') : Exw ρ H ρ' H' := ⟨x.pre, fun a h n => absurd (x.hd ▸ h) n, x.fresh, x.keep, x.dom⟩
theorem Exw.trans {ρ ρ1 ρ2 : Rg} {H H1 H2 : Hp} (x : Exw ρ H ρ1 H1) (y : Exw ρ1 H1 ρ2 H2) : Exw ρ H ρ2 H2 := by
  refine ⟨x.pre.trans y.pre, fun a h n => ?_, fun a h n => ?_, fun a o h n => ?_, fun a h => x.dom a (y.dom a h)⟩
  · by_cases h1 : a ∈ ρ1.h
    · exact x.hd a h1 n
    · exact x.dom a (y.hd a h h1)
  · by_cases h1 : a ∈ ρ1.l
    · exact x.fresh a h1 n
    · exact x.dom a (y.fresh a h h1)
  · refine y.keep a o (x.keep a o h n) fun h1 => ?_
    rw [x.fresh a h1 n] at h; cases h

theorem Ext.refl (ρ : Rg) (H : Hp) : Ext ρ H ρ H := ⟨List.prefix_refl _, rfl, fun _ h n => absurd h n, fun _ _ h _ => h, fun _ h => h⟩
theorem Ext.trans {ρ ρ1 ρ2 : Rg} {H H1 H2 : Hp} (x : Ext ρ H ρ1 H1) (y : Ext ρ1 H1 ρ2 H2) : Ext ρ H ρ2 H2 := by
  refine ⟨x.pre.trans y.pre, y.hd.trans x.hd, fun a h n => ?_, fun a o h n => ?_, fun a h => x.dom a (y.dom a h)⟩
  · by_cases h1 : a ∈ ρ1.l
    · exact x.fresh a h1 n
    · exact x.dom a (y.fresh a h h1)
  · refine y.keep a o (x.keep a o h n) fun h1 => ?_
    rw [x.fresh a h1 n] at h; cases h

/-- nobody held it before -/
def Frs (H : Hp) (d : D) (v : V) : Prop := ∀ e, d = .fr e → ∃ a, v = .ref a ∧ H a = none
theorem Frs.back {ρ ρ' : Rg} {H H' : Hp} {d : D} {v : V} (x : Ext ρ H ρ' H') (f : Frs H' d v) : Frs H d v := fun e h => by
  obtain ⟨a, e1, e2⟩ := f e h
  exact ⟨a, e1, x.dom a e2⟩
theorem Frs.no {H : Hp} {d : D} {v : V} (h : ∀ e, d ≠ .fr e) : Frs H d v := fun e q => absurd q (h e)

section
variable {K : PySem.W.Frag} {ρ ρ' : Rg} {M : Mem} {H H' : Hp}
theorem rdT_mono (r : ρ.fine H) (x : Exw ρ H ρ' H') {a : Addr} {u : HO} (hu : ¬ IsCell u) (h : Rd H a u) : Rd H' a u := by
  rcases h with h | ⟨o, h⟩
  · refine .inl (x.keep _ _ h fun ha => ?_)
    obtain ⟨o', h1, h2⟩ := r a (.inl ha)
    rw [h] at h1; cases h1; exact hu h2
  · refine .inr ⟨o, x.keep _ _ h fun ha => ?_⟩
    obtain ⟨o', h1, h2⟩ := r a (.inl ha)
    rw [h] at h1; cases h1; exact h2
theorem sqT_mono (r : ρ.fine H) (x : Exw ρ H ρ' H') {a : Addr} {xs : List V} (h : SqT K H a xs) : SqT K H' a xs := by
  rcases h with h | h
  · exact .inl (rdT_mono r x (fun z => z) h)
  · exact .inr h
theorem fz_mono (r : ρ.fine H) (x : Exw ρ H ρ' H') {a : Addr} {xs : List V} (h : FzL K H a xs) : FzL K H' a xs := by
  rcases h with ⟨o, h⟩ | h
  · refine .inl ⟨o, x.keep _ _ h fun ha => ?_⟩
    obtain ⟨o', h1, h2⟩ := r a (.inl ha)
    rw [h] at h1; cases h1; exact h2
  · exact .inr h
theorem no_mono (x : Exw ρ H ρ' H') {a : Addr} {o : HO} (h : H a = some o) (n : ρ.no a) : ρ'.no a := by
  refine ⟨fun q => ?_, fun q => ?_⟩
  · rw [x.fresh a q n.1] at h; cases h
  · rw [x.hd a q n.2] at h; cases h
theorem pre_get {ρ ρ' : List Addr} (h : ρ <+: ρ') {n : Nat} {a : Addr} (e : ρ[n]? = some a) : ρ'[n]? = some a := by
  obtain ⟨t, rfl⟩ := h
  have hl := (List.getElem?_eq_some_iff.mp e).1
  rw [List.getElem?_append_left hl]; exact e
mutual
theorem RD.mono (r : ρ.fine H) (x : Exw ρ H ρ' H') : ∀ (d : D) (v : V), RD ρ K H d v → RD ρ' K H' d v
  | .non, _, h => by cases h; exact .non
  | .bl _, _, h => by cases h; exact .bl _
  | .int _, _, h => by cases h; exact .int _
  | .str _, _, h => by cases h; exact .str _
  | .ty _, _, h => by cases h; exact .ty _
  | .tup ds, _, h => by
    cases h with
    | tup h1 h2 => exact .tup (sqT_mono r x h1) (RDs.mono r x ds _ h2)
  | .lst ds, _, h => by
    cases h with
    | lst h1 h2 h3 => exact .lst (x.keep _ _ h1 h2.1) (no_mono x h1 h2) (RDs.mono r x ds _ h3)
  | .fz ds, _, h => by
    cases h with
    | fz h1 h2 => exact .fz (fz_mono r x h1) (RDs.mono r x ds _ h2)
  | .dct ds, _, h => by
    cases h with
    | dct h1 h2 h3 => exact .dct (x.keep _ _ h1 h2.1) (no_mono x h1 h2) (RDk.mono r x ds _ h3)
  | .loc n, _, h => by
    cases h with
    | loc h1 => exact .loc (pre_get x.pre h1)
  | .fr d, v, h => by cases h
theorem RDs.mono (r : ρ.fine H) (x : Exw ρ H ρ' H') : ∀ (d : List D) (v : List V), RDs ρ K H d v → RDs ρ' K H' d v
  | [], _, h => by cases h; exact .nil
  | d :: ds, _, h => by
    cases h with
    | cons h1 h2 => exact .cons (RD.mono r x d _ h1) (RDs.mono r x ds _ h2)
theorem RDk.mono (r : ρ.fine H) (x : Exw ρ H ρ' H') : ∀ (d : List (Key × D)) (v : List (Key × V)), RDk ρ K H d v → RDk ρ' K H' d v
  | [], _, h => by cases h; exact .nil
  | (k, d) :: ds, _, h => by
    cases h with
    | cons h1 h2 => exact .cons (RD.mono r x d _ h1) (RDk.mono r x ds _ h2)
end
end
end Lay

set_option Elab.async false
set_option maxRecDepth 100000
set_option linter.all false
/-! Lay, part B: the small language and what it asks. -/
namespace Lay
open PySem L2

inductive BO where | add | sub | mul | fdiv | mod | pow
inductive CO where | eq | ne | lt | le | gt | ge | is | isnot | isin | notin
inductive BF where | len | isinst | repr | abs | int | str | list | tuple | sum | sorted | all | any | max | min
inductive MT where | append | pop | extend
mutual
inductive Tg where
  | nm (i : Nat)
  | tup (ts : Tgs)
inductive Tgs where
  | nil
  | cons (t : Tg) (ts : Tgs)
end
mutual
inductive E where
  | v (i : Nat)
  | c (d : D)
  | bin (o : BO) (a b : E)
  | neg (a : E)
  | cmp (a : E) (ls : Cs)
  | and (a b : E) | or (a b : E) | not (a : E)
  | ite (c a b : E)
  | ix (a i : E)
  | sl (a : E) (lo hi : Eo)
  | rev (a : E)
  | tup (es : Es) | lst (es : Es)
  | dct0 | dct (ps : Ps)
  | call (f : Str) (es : Es)
  | callk (f : Str) (pm : List Nat) (es ks : Es)
  | bf (f : BF) (es : Es)
  | mt (m : MT) (o : E) (es : Es)
  | lc (t : Tg) (it : IT) (c : Eo) (e : E) (own : List Nat)
  | mk (e : E)
  | lrng (es : Es)
  | lzip (es : Es)
  | sset (es : Es)
inductive Es where
  | nil
  | cons (e : E) (es : Es)
inductive Eo where
  | none
  | some (e : E)
inductive Ps where
  | nil
  | cons (k e : E) (ps : Ps)
inductive Cs where
  | one (o : CO) (e : E)
  | cons (o : CO) (e : E) (r : Cs)
inductive IT where
  | seq (e : E)
  | rng (es : Es)
  | enm (es : Es)
  | zip (es : Es)
end

def Es.len : Es → Nat
  | .nil => 0
  | .cons _ es => es.len + 1
/-! ### lists, tuples, data -/
def lsOf (M : Mem) : D → Option (List D)
  | .lst xs => some xs
  | .loc n => match M[n]? with
    | some (.lst xs) => some xs
    | _ => none
  | _ => none
def dcOf (M : Mem) : D → Option (List (Key × D))
  | .dct xs => some xs
  | .loc n => match M[n]? with
    | some (.dic xs) => some xs
    | _ => none
  | _ => none
def sqOf (M : Mem) : D → Option (List D)
  | .tup xs => some xs
  | .fz xs => some xs
  | d => lsOf M d

def keyPy : Key → PyData
  | .inl i => .int i
  | .inr x => .str x
mutual
inductive Py (M : Mem) : D → PyData → Prop
  | non : Py M .non .none
  | bl (b : Bool) : Py M (.bl b) (.bool b)
  | int (i : Int) : Py M (.int i) (.int i)
  | str (x : Str) : Py M (.str x) (.str x)
  | tup {xs : List D} {ps : List PyData} : Pys M xs ps → Py M (.tup xs) (.tuple ps)
  | lst {xs : List D} {ps : List PyData} : Pys M xs ps → Py M (.lst xs) (.list ps)
  | dct {xs : List (Key × D)} {ps : List (PyData × PyData)} : Pyk M xs ps → Py M (.dct xs) (.dict ps)
  | locL {n : Nat} {xs : List D} {ps : List PyData} : M[n]? = some (.lst xs) → Pys M xs ps → Py M (.loc n) (.list ps)
  | locD {n : Nat} {xs : List (Key × D)} {ps : List (PyData × PyData)} : M[n]? = some (.dic xs) → Pyk M xs ps → Py M (.loc n) (.dict ps)
inductive Pys (M : Mem) : List D → List PyData → Prop
  | nil : Pys M [] []
  | cons {d : D} {p : PyData} {ds : List D} {ps : List PyData} : Py M d p → Pys M ds ps → Pys M (d :: ds) (p :: ps)
inductive Pyk (M : Mem) : List (Key × D) → List (PyData × PyData) → Prop
  | nil : Pyk M [] []
  | cons {k : Key} {d : D} {p : PyData} {ds : List (Key × D)} {ps : List (PyData × PyData)} : Py M d p → Pyk M ds ps → Pyk M ((k, d) :: ds) ((keyPy k, p) :: ps)
end
/-- data that repr takes -/
structure Fit (p : PyData) : Prop where
  show_ : p.showable = true
  deep : p.depth ≤ 60
  size : p.shown.length ≤ sizeLine

/-! ### operators -/
def mulOk (i j : Int) : Prop := (-(2 ^ 64) < i ∧ i < 2 ^ 64) ∨ (-(2 ^ 64) < j ∧ j < 2 ^ 64) ∨ i.natAbs.log2 + j.natAbs.log2 < 1000000
def op2 : BO → D → D → Mem → Kd → Prop
  | .add, x, y, M, Q => (∃ i j, x = .int i ∧ y = .int j ∧ Q (.int (i + j)) M) ∨
      (∃ s t, x = .str s ∧ y = .str t ∧ s.length + t.length ≤ sizeLine ∧ Q (.str (s ++ t)) M) ∨
      (∃ xs ys, x = .tup xs ∧ y = .tup ys ∧ xs.length + ys.length ≤ sizeLine ∧ Q (.tup (xs ++ ys)) M) ∨
      (∃ xs ys, lsOf M x = some xs ∧ lsOf M y = some ys ∧ xs.length + ys.length ≤ sizeLine ∧ Q (.fr (.lst (xs ++ ys))) M)
  | .sub, x, y, M, Q => ∃ i j, x = .int i ∧ y = .int j ∧ Q (.int (i - j)) M
  | .mul, x, y, M, Q => (∃ i j, x = .int i ∧ y = .int j ∧ mulOk i j ∧ Q (.int (i * j)) M) ∨
      (∃ xs k, lsOf M x = some xs ∧ y = .int k ∧ k < 2 ^ 62 ∧ -(2 ^ 62) < k ∧ xs.length * k.toNat ≤ sizeLine ∧ Q (.fr (.lst (List.replicate k.toNat xs).flatten)) M) ∨
      (∃ xs k, x = .tup xs ∧ y = .int k ∧ xs ≠ [] ∧ 2 ≤ k ∧ k ≤ 1000 ∧ xs.length ≤ 1000 ∧ Q (.tup (List.replicate k.toNat xs).flatten) M) ∨
      (∃ xs, x = .tup xs ∧ y = .int 1 ∧ Q (.tup xs) M)
  | .fdiv, x, y, M, Q => ∃ i j, x = .int i ∧ y = .int j ∧ 0 < j ∧ j.natAbs.log2 < 9000 ∧ Q (.int (i / j)) M
  | .mod, x, y, M, Q => ∃ i j, x = .int i ∧ y = .int j ∧ 0 < j ∧ Q (.int (i % j)) M
  | .pow, x, y, M, Q => ∃ i j, x = .int i ∧ y = .int j ∧ 0 ≤ j ∧ j ≤ 1000000 ∧ i.natAbs < 2 ^ 64 ∧ Q (.int (i ^ j.toNat)) M

def isNon : D → Bool
  | .non => true
  | _ => false
def D.toKey : D → Option Key
  | .int i => some (.inl i)
  | .str x => some (.inr x)
  | _ => none
def lookK (ks : List (Key × D)) (k : Key) : Option D := (ks.find? fun p => decide (p.1 = k)).map (·.2)
def putK' (ks : List (Key × D)) (k : Key) (d : D) : List (Key × D) := if ks.any (fun p => decide (p.1 = k)) = true then ks.map (fun p => if p.1 = k then (p.1, d) else p) else ks ++ [(k, d)]
/-- the one text within the other -/
def strIn (x y : Str) : Bool := !(Builtin.Str.occurrences y x 0 y.length 1).isEmpty
def opIn (x y : D) (M : Mem) (Q : Bool → Prop) : Prop :=
  (∃ s t, x = .str s ∧ y = .str t ∧ Q (strIn s t)) ∨
  (∃ ds p ps, lsOf M y = some ds ∧ Py M x p ∧ Pys M ds ps ∧ SeqAt.shaped p = true ∧ SeqAt.shaped (.list ps) = true ∧ Q (ps.any fun z => PyData.eqv z p)) ∨
  (∃ ks k, dcOf M y = some ks ∧ x.toKey = some k ∧ Q (lookK ks k).isSome) ∨
  (∃ ds p ps, y = .tup ds ∧ Py M x p ∧ Pys M ds ps ∧ SeqAt.shaped p = true ∧ SeqAt.shaped (.tuple ps) = true ∧ Q (ps.any fun z => PyData.eqv z p))
def opC : CO → D → D → Mem → (Bool → Prop) → Prop
  | .eq, x, y, M, Q => (∃ a b : Str, x = .str a ∧ y = .str b ∧ Q (decide (a = b))) ∨ ∃ p q, Py M x p ∧ Py M y q ∧ SeqAt.shaped p = true ∧ SeqAt.shaped q = true ∧ Q (PyData.eqv p q)
  | .ne, x, y, M, Q => ((∃ a b : Str, x = .str a ∧ y = .str b ∧ Q (!decide (a = b))) ∨ (∃ xs, lsOf M x = some xs ∧ lsOf M y = some [] ∧ Q (!xs.isEmpty))) ∨ ∃ p q, Py M x p ∧ Py M y q ∧ SeqAt.shaped p = true ∧ SeqAt.shaped q = true ∧ Q (!PyData.eqv p q)
  | .lt, x, y, _, Q => ∃ i j, x = .int i ∧ y = .int j ∧ Q (decide (i < j))
  | .le, x, y, _, Q => ∃ i j, x = .int i ∧ y = .int j ∧ Q (decide (i ≤ j))
  | .gt, x, y, _, Q => ∃ i j, x = .int i ∧ y = .int j ∧ Q (decide (j < i))
  | .ge, x, y, _, Q => ∃ i j, x = .int i ∧ y = .int j ∧ Q (decide (j ≤ i))
  | .is, x, y, _, Q => y = .non ∧ Q (isNon x)
  | .isnot, x, y, _, Q => y = .non ∧ Q (!isNon x)
  | .isin, x, y, M, Q => opIn x y M Q
  | .notin, x, y, M, Q => opIn x y M fun b => Q (!b)

def opIx (x i : D) (M : Mem) (Q : D → Prop) : Prop :=
  (∃ xs k d, sqOf M x = some xs ∧ i = .int k ∧ atI xs k = some d ∧ Q d) ∨
  (∃ s k c, x = .str s ∧ i = .int k ∧ s.length ≤ sizeLine ∧ atI s.cps.toList k = some c ∧ Q (.str ⟨#[c]⟩)) ∨
  (∃ ks k d, dcOf M x = some ks ∧ i.toKey = some k ∧ lookK ks k = some d ∧ Q d)
def cutD (xs : List D) (lo hi : Option Int) : List D := (xs.drop (HT.sIx xs.length 0 lo)).take (HT.sIx xs.length xs.length hi - HT.sIx xs.length 0 lo)
def opSl (x : D) (lo hi : Option Int) (M : Mem) (Q : D → Prop) : Prop :=
  (∃ xs, x = .tup xs ∧ Q (.tup (cutD xs lo hi))) ∨ (∃ xs, lsOf M x = some xs ∧ Q (.fr (.lst (cutD xs lo hi)))) ∨ (∃ xs, x = .fz xs ∧ Q (.fr (.lst (cutD xs lo hi))))
def opSet (x i d : D) (M : Mem) (Q : Mem → Prop) : Prop :=
  (∃ n xs k j, x = .loc n ∧ M[n]? = some (.lst xs) ∧ i = .int k ∧ ixN xs.length k = some j ∧ Q (M.set n (.lst (xs.set j d)))) ∨
  (∃ n ks k, x = .loc n ∧ M[n]? = some (.dic ks) ∧ i.toKey = some k ∧ ks.length < sizeLine ∧ Q (M.set n (.dic (putK' ks k d))))

def truth (d : D) (M : Mem) (Q : Bool → Prop) : Prop :=
  (∃ b, d = .bl b ∧ Q b) ∨ (d = .non ∧ Q false) ∨ (∃ i, d = .int i ∧ Q (i != 0)) ∨ (∃ xs, sqOf M d = some xs ∧ Q (!xs.isEmpty)) ∨ (∃ x, d = .str x ∧ x.length ≤ sizeLine ∧ Q ((x.length : Int) != 0))

/-! ### built-ins -/
def tyName : D → Mem → Option String
  | .non, _ => some "NoneType"
  | .bl _, _ => some "bool"
  | .int _, _ => some "int"
  | .str _, _ => some "str"
  | .tup _, _ => some "tuple"
  | .lst _, _ => some "list"
  | .fz _, _ => some "list"
  | .dct _, _ => some "dict"
  | .loc n, M => match M[n]? with
    | some (.lst _) => some "list"
    | some (.dic _) => some "dict"
    | none => none
  | _, _ => none
def isTy (a b : String) : Bool := a == b || (a == "bool" && b == "int")
def allInts : List D → Option (List Int)
  | [] => some []
  | .int i :: r => (allInts r).map (i :: ·)
  | _ => none
def allBls : List D → Option (List Bool)
  | [] => some []
  | .bl i :: r => (allBls r).map (i :: ·)
  | _ => none
/-- tuples of whole numbers in the order of the lexicon -/
def ltL : List Int → List Int → Bool
  | [], [] => false
  | [], _ :: _ => true
  | _ :: _, [] => false
  | a :: as, b :: bs => if a = b then ltL as bs else decide (a < b)
def tupI (is : List Int) : D := .tup (is.map .int)
def opB : BF → List D → Mem → Kd → Prop
  | .len, ds, M, Q => ∃ d, ds = [d] ∧ ((∃ xs, sqOf M d = some xs ∧ Q (.int xs.length) M) ∨ (∃ x, d = .str x ∧ x.length ≤ sizeLine ∧ Q (.int x.length) M))
  | .isinst, ds, M, Q => ∃ d n t, ds = [d, .ty n] ∧ tyName d M = some t ∧ n ∈ ["int", "bool", "str", "tuple", "list", "dict"] ∧ Q (.bl (isTy t n)) M
  | .repr, ds, M, Q => ∃ d p, ds = [d] ∧ Py M d p ∧ Fit p ∧ Q (.str p.shown) M
  | .abs, ds, M, Q => ∃ i, ds = [.int i] ∧ Q (.int (if i < 0 then -i else i)) M
  | .int, ds, M, Q => (∃ i, ds = [.int i] ∧ Q (.int i) M) ∨ (∃ b, ds = [.bl b] ∧ Q (.int (if b then 1 else 0)) M)
  | .str, ds, M, Q => (∃ i, ds = [.int i] ∧ i.natAbs.log2 < 1920 ∧ Q (.str (toString i)) M)
  | .list, ds, M, Q => ∃ d xs, ds = [d] ∧ sqOf M d = some xs ∧ Q (.fr (.lst xs)) M
  | .tuple, ds, M, Q => ∃ d xs, ds = [d] ∧ sqOf M d = some xs ∧ Q (.tup xs) M
  | .sum, ds, M, Q => ∃ d xs is, ds = [d] ∧ lsOf M d = some xs ∧ allInts xs = some is ∧ Q (.int is.sum) M
  | .sorted, ds, M, Q => (∃ d xs is, ds = [d] ∧ lsOf M d = some xs ∧ allInts xs = some is ∧ ∀ is' : List Int, is'.Perm is → is'.Pairwise (· ≤ ·) → Q (.fr (.lst (is'.map .int))) M) ∨
      (∃ d ts, ds = [d] ∧ sqOf M d = some (ts.map tupI) ∧ (∀ t ∈ ts, t ≠ []) ∧ ∀ ts' : List (List Int), ts'.Perm ts → ts'.Pairwise (fun x y => ltL y x = false) → Q (.fr (.lst (ts'.map tupI))) M)
  | .all, ds, M, Q => ∃ d xs bs, ds = [d] ∧ lsOf M d = some xs ∧ allBls xs = some bs ∧ Q (.bl (bs.all id)) M
  | .any, ds, M, Q => ∃ d xs bs, ds = [d] ∧ lsOf M d = some xs ∧ allBls xs = some bs ∧ Q (.bl (bs.any id)) M
  | .max, ds, M, Q => (∃ i j, ds = [.int i, .int j] ∧ Q (.int (if j > i then j else i)) M) ∨
      (∃ d xs is, ds = [d] ∧ lsOf M d = some xs ∧ allInts xs = some is ∧ is ≠ [] ∧ ∀ m ∈ is, (∀ y ∈ is, y ≤ m) → Q (.int m) M)
  | .min, ds, M, Q => (∃ i j, ds = [.int i, .int j] ∧ Q (.int (if j < i then j else i)) M) ∨
      (∃ d xs is, ds = [d] ∧ lsOf M d = some xs ∧ allInts xs = some is ∧ is ≠ [] ∧ ∀ m ∈ is, (∀ y ∈ is, m ≤ y) → Q (.int m) M)
def opM : MT → D → List D → Mem → Kd → Prop
  | .append, o, ds, M, Q => ∃ n xs d, o = .loc n ∧ ds = [d] ∧ M[n]? = some (.lst xs) ∧ xs.length < sizeLine ∧ Q .non (M.set n (.lst (xs ++ [d])))
  | .pop, o, ds, M, Q => ∃ n xs, o = .loc n ∧ M[n]? = some (.lst xs) ∧
      ((ds = [] ∧ ∃ d, xs[xs.length - 1]? = some d ∧ Q d (M.set n (.lst xs.dropLast))) ∨
       (∃ i k d, ds = [.int i] ∧ -(2 ^ 63) ≤ i ∧ i < 2 ^ 63 ∧ seqIndex? i xs.length = some k ∧ xs[k]? = some d ∧ Q d (M.set n (.lst (xs.eraseIdx k)))))
  | .extend, o, ds, M, Q => ∃ n xs d ys, o = .loc n ∧ ds = [d] ∧ M[n]? = some (.lst xs) ∧ lsOf M d = some ys ∧ d ≠ .loc n ∧ xs.length + ys.length ≤ sizeLine ∧ Q .non (M.set n (.lst (xs ++ ys)))

/-! ### what is walked: the items, the cells that have to stay -/
abbrev Gd := List (Nat × Cell)
def chars (x : Str) : List D := x.cps.toList.map fun c => .str ⟨#[c]⟩
def itOf (M : Mem) (d : D) (R : List D → Gd → Prop) : Prop :=
  (∃ xs, d = .tup xs ∧ R xs []) ∨ (∃ xs, d = .fz xs ∧ R xs []) ∨ (∃ xs, d = .lst xs ∧ R xs []) ∨ (∃ n xs, d = .loc n ∧ M[n]? = some (.lst xs) ∧ R xs [(n, .lst xs)])
def enumFrom (i : Nat) : List D → List D
  | [] => []
  | d :: ds => .tup [.int i, d] :: enumFrom (i + 1) ds
def zipD (xs ys : List D) : List D := List.zipWith (fun x y => .tup [x, y]) xs ys
def rngD (lo : Int) (n : Nat) (c : Int) : List D := (List.range n).map fun (i : Nat) => D.int (lo + (i : Int) * c)
def small62 (i : Int) : Prop := -(2 ^ 62) ≤ i ∧ i < 2 ^ 62
def rngN (a b c : Int) : Nat := if 0 < c then ((b - a + c - 1) / c).toNat else ((a - b - c - 1) / (-c)).toNat

def opRng : Nat → List D → (List D → Prop) → Prop
  | 1, ds, Q => ∃ j, ds = [.int j] ∧ small62 j ∧ Q (rngD 0 j.toNat 1)
  | 2, ds, Q => ∃ i j, ds = [.int i, .int j] ∧ small62 i ∧ small62 j ∧ Q (rngD i (j - i).toNat 1)
  | 3, ds, Q => ∃ i j k n, ds = [.int i, .int j, .int k] ∧ RgC i j k n ∧ Q (rngD i n k)
  | _, _, _ => False
def isTup : D → Bool
  | .tup _ => true
  | _ => false
/-! ### targets -/
/-- what is unpacked: a tuple, or a list just made -/
def unT : D → Option (List D)
  | .tup xs => some xs
  | .fr (.lst xs) => some xs
  | _ => none
mutual
def wpTg : Tg → D → Sl → (Sl → Prop) → Prop
  | .nm i, d, σ, Q => Q (σ.set i (some (shr d)))
  | .tup ts, d, σ, Q => ∃ xs, unT d = some xs ∧ wpTgs ts xs σ Q
def wpTgs : Tgs → List D → Sl → (Sl → Prop) → Prop
  | .nil, xs, σ, Q => xs = [] ∧ Q σ
  | .cons t ts, xs, σ, Q => ∃ y ys, xs = y :: ys ∧ wpTg t y σ fun σ' => wpTgs ts ys σ' Q
end

/-! ### exceptions -/
structure Xn where
  cls : Str
  fs : List (Str × D)
abbrev XP := Xn → Mem → Prop
/-- what the defs are known to do -/
abbrev Gam := Str → List D → Mem → XP → Kd → Prop
abbrev WE := Sl → Mem → XP → Kd → Prop

def wipeD (σ : Sl) (own : List Nat) : Sl := own.foldr (fun i s => s.set i none) σ
def perm (pm : List Nat) (ds : List D) : List D := pm.filterMap (ds[·]?)

/-! ### expressions -/
mutual
def wp (Γ : Gam) : E → WE
  | .v i, σ, M, _, Q => ∃ d, σ[i]? = some (some d) ∧ Q d M
  | .c d, _, M, _, Q => Q d M
  | .bin o a b, σ, M, X, Q => wp Γ a σ M X fun x M1 => wp Γ b σ M1 X fun y M2 => op2 o (shr x) (shr y) M2 Q
  | .neg a, σ, M, X, Q => wp Γ a σ M X fun x M1 => ∃ i, x = .int i ∧ Q (.int (-i)) M1
  | .cmp a ls, σ, M, X, Q => wp Γ a σ M X fun x M1 => wpC Γ ls (shr x) σ M1 X Q
  | .and a b, σ, M, X, Q => wp Γ a σ M X fun x M1 => truth (shr x) M1 fun c => if c = true then wp Γ b σ M1 X Q else Q x M1
  | .or a b, σ, M, X, Q => wp Γ a σ M X fun x M1 => truth (shr x) M1 fun c => if c = true then Q x M1 else wp Γ b σ M1 X Q
  | .not a, σ, M, X, Q => wp Γ a σ M X fun x M1 => truth (shr x) M1 fun b => Q (.bl (!b)) M1
  | .ite c a b, σ, M, X, Q => wp Γ c σ M X fun x M1 => truth (shr x) M1 fun k => if k = true then wp Γ a σ M1 X Q else wp Γ b σ M1 X Q
  | .ix a i, σ, M, X, Q => wp Γ a σ M X fun x M1 => wp Γ i σ M1 X fun y M2 => opIx (shr x) (shr y) M2 fun d => Q d M2
  | .sl a lo hi, σ, M, X, Q => wp Γ a σ M X fun x M1 => wpO Γ lo σ M1 X fun l M2 => wpO Γ hi σ M2 X fun h M3 => opSl (shr x) l h M3 fun d => Q d M3
  | .rev a, σ, M, X, Q => wp Γ a σ M X fun x M1 => (∃ xs, x = .tup xs ∧ Q (.tup xs.reverse) M1) ∨ (∃ xs, lsOf M1 (shr x) = some xs ∧ Q (.fr (.lst xs.reverse)) M1)
  | .tup es, σ, M, X, Q => wps Γ es σ M X fun ds M1 => ds.length ≤ sizeLine ∧ Q (.tup ds) M1
  | .lst es, σ, M, X, Q => wps Γ es σ M X fun ds M1 => ds.length ≤ sizeLine ∧ Q (.fr (.lst ds)) M1
  | .dct0, _, M, _, Q => Q (.fr (.dct [])) M
  | .dct ps, σ, M, X, Q => wpP Γ ps σ (M ++ [.dic []]) X fun ks M1 => ks.length ≤ 15 ∧ M1[M.length]? = some (.dic []) ∧ Q (.loc M.length) (M1.set M.length (.dic (ks.foldl (fun acc p => putK' acc p.1 p.2) [])))
  | .call f es, σ, M, X, Q => wps Γ es σ M X fun ds M1 => ds.length = es.len ∧ Γ f ds M1 X Q
  | .callk f pm es ks, σ, M, X, Q => wps Γ es σ M X fun ds M1 => wps Γ ks σ M1 X fun zs M2 => ds.length = es.len ∧ zs.length = ks.len ∧ Γ f (perm pm (ds ++ zs)) M2 X Q
  | .bf f es, σ, M, X, Q => wps Γ es σ M X fun ds M1 => opB f ds M1 Q
  | .mt m o es, σ, M, X, Q => wp Γ o σ M X fun x M1 => (∃ n xs, shr x = .loc n ∧ M1[n]? = some (.lst xs)) ∧ wps Γ es σ M1 X fun ds M2 => opM m (shr x) ds M2 Q
  | .lc t it c e own, σ, M, X, Q => wpI Γ it σ M X fun xs gd M1 => ∃ I : Nat → List D → Mem → Prop, I 0 [] M1 ∧ ∀ i acc M2, I i acc M2 →
      (∀ g ∈ gd, M2[g.1]? = some g.2) ∧
      (i = xs.length → Q (.fr (.lst acc)) M2) ∧
      ∀ x, xs[i]? = some x → wpTg t x (wipeD σ own) fun σ1 => wpK Γ c σ1 M2 (fun _ _ => False) fun b M3 =>
        if b = true then wp Γ e σ1 M3 (fun _ _ => False) fun y M4 => acc.length < sizeLine ∧ I (i + 1) (acc ++ [shr y]) M4 else I (i + 1) acc M3
  | .mk e, σ, M, X, Q => wp Γ e σ M X fun d M1 => (∃ xs, d = .fr (.lst xs) ∧ Q (.loc M1.length) (M1 ++ [.lst xs])) ∨ (∃ ks, d = .fr (.dct ks) ∧ Q (.loc M1.length) (M1 ++ [.dic ks])) ∨ ((∀ e, d ≠ .fr e) ∧ Q d M1)
  | .lrng es, σ, M, X, Q => wps Γ es σ M X fun ds M1 => opRng es.len ds fun xs => xs.length ≤ sizeLine ∧ Q (.fr (.lst xs)) M1
  | .lzip es, σ, M, X, Q => wps Γ es σ M X fun ds M1 => ∃ x y xs ys, ds = [x, y] ∧ lsOf M1 x = some xs ∧ lsOf M1 y = some ys ∧ Q (.fr (.lst (zipD xs ys))) M1
  | .sset es, σ, M, X, Q => wps Γ es σ M X fun ds M1 => ∃ (is : List Int) (d : D), ds = [d] ∧ sqOf M1 d = some (is.map .int) ∧ is.length < 64 ∧ ∀ is' : List Int, is'.Pairwise (· < ·) → (∀ k, k ∈ is' ↔ k ∈ is) → Q (.fr (.lst (is'.map .int))) M1
def wps (Γ : Gam) : Es → Sl → Mem → XP → (List D → Mem → Prop) → Prop
  | .nil, _, M, _, Q => Q [] M
  | .cons e es, σ, M, X, Q => wp Γ e σ M X fun d M1 => wps Γ es σ M1 X fun ds M2 => Q (shr d :: ds) M2
def wpO (Γ : Gam) : Eo → Sl → Mem → XP → (Option Int → Mem → Prop) → Prop
  | .none, _, M, _, Q => Q none M
  | .some e, σ, M, X, Q => wp Γ e σ M X fun d M1 => ∃ i, d = .int i ∧ Q (some i) M1
def wpK (Γ : Gam) : Eo → Sl → Mem → XP → (Bool → Mem → Prop) → Prop
  | .none, _, M, _, Q => Q true M
  | .some e, σ, M, X, Q => wp Γ e σ M X fun d M1 => truth (shr d) M1 fun b => Q b M1
def wpP (Γ : Gam) : Ps → Sl → Mem → XP → (List (Key × D) → Mem → Prop) → Prop
  | .nil, _, M, _, Q => Q [] M
  | .cons k e ps, σ, M, X, Q => wp Γ k σ M X fun x M1 => wp Γ e σ M1 X fun y M2 => wpP Γ ps σ M2 X fun ks M3 => ∃ kk, x.toKey = some kk ∧ Q ((kk, shr y) :: ks) M3
def wpC (Γ : Gam) : Cs → D → Sl → Mem → XP → Kd → Prop
  | .one o e, x, σ, M, X, Q => wp Γ e σ M X fun y M1 => opC o x (shr y) M1 fun b => Q (.bl b) M1
  | .cons o e r, x, σ, M, X, Q => wp Γ e σ M X fun y M1 => opC o x (shr y) M1 fun b => if b = true then wpC Γ r (shr y) σ M1 X Q else Q (.bl false) M1
def wpI (Γ : Gam) : IT → Sl → Mem → XP → (List D → Gd → Mem → Prop) → Prop
  | .seq e, σ, M, X, R => wp Γ e σ M X fun d M1 => itOf M1 (shr d) fun xs g => R xs g M1
  | .rng es, σ, M, X, R => wps Γ es σ M X fun ds M1 => opRng es.len ds fun xs => R xs [] M1
  | .enm es, σ, M, X, R => wps Γ es σ M X fun ds M1 => ∃ d, ds = [d] ∧ itOf M1 d fun xs g => R (enumFrom 0 xs) g M1
  | .zip es, σ, M, X, R => wps Γ es σ M X fun ds M1 => ∃ x y, ds = [x, y] ∧ itOf M1 x fun xs g => itOf M1 y fun ys g2 => isTup x = isTup y ∧ R (zipD xs ys) (g ++ g2) M1
end

/-! ### what an except suite answers -/
mutual
inductive SE where
  | c (d : D)
  | fld (i : Nat) (f : Str)
  | isx (i : Nat) (y : Str)
  | lst (es : SEs)
  | rep (e : SE)
  | ite (c a b : SE)
inductive SEs where
  | nil
  | cons (e : SE) (es : SEs)
end
/-- the package's errors, with the field that each keeps -/
def xFields : List (Str × Option Str) := [("Unfit", none), ("BadText", some "place"), ("BadNet", some "error"), ("BadTally", some "error"), ("TooMany", some "limit"), ("NoName", some "given"), ("Taken", some "given"), ("Ring", some "names"), ("NothingToUndo", none), ("TooManyEdits", none), ("BadLog", some "place")]
def xNm (x : Str) : Bool := (xFields.lookup x).isSome
def subX (x y : Str) : Bool := decide (x = y) || decide (y = "TripError")
mutual
def wpS : SE → Option Nat → Xn → Mem → (D → Prop) → Prop
  | .c d, _, _, _, Q => Q d
  | .fld i f, n, x, _, Q => n = some i ∧ ∃ d, x.fs.lookup f = some d ∧ Q d
  | .isx i y, n, x, _, Q => n = some i ∧ subX x.cls y = true ∧ Q (.bl true)
  | .lst es, n, x, M, Q => wpSs es n x M fun ds => ds.length ≤ sizeLine ∧ Q (.fr (.lst ds))
  | .rep e, n, x, M, Q => wpS e n x M fun d => opB .repr [shr d] M fun r M' => M' = M ∧ Q r
  | .ite c a b, n, x, M, Q => wpS c n x M fun d => truth (shr d) M fun k => if k = true then wpS a n x M Q else wpS b n x M Q
def wpSs : SEs → Option Nat → Xn → Mem → (List D → Prop) → Prop
  | .nil, _, _, _, Q => Q []
  | .cons e es, n, x, M, Q => wpS e n x M fun d => wpSs es n x M fun ds => Q (shr d :: ds)
end
/-- the clauses of a try, one after the other: the class, the name's slot, what is returned -/
inductive Hs where
  | nil
  | cons (y : Str) (n : Option Nat) (e : SE) (hs : Hs)

/-! ### statements -/
structure Po where
  nx : Sl → Mem → Prop
  rt : Kd
  bk : Sl → Mem → Prop := fun _ _ => False
  ct : Sl → Mem → Prop := fun _ _ => False
  xe : Xn → Sl → Mem → Prop := fun _ _ _ => False
mutual
inductive S where
  | asg (t : Tg) (e : E)
  | put (o i e : E)
  | ex (e : E)
  | ret (e : E)
  | retN
  | ite (c : E) (a b : Ss)
  | whl (c : E) (b : Ss)
  | for (t : Tg) (it : IT) (b : Ss)
  | brk | cnt | pass
  | raise (x : Str) (f : Option Str) (es : Es)
  | tryx (b : Ss) (hs : Hs)
inductive Ss where
  | nil
  | cons (s : S) (ss : Ss)
end
def wH : Hs → Po → Xn → Sl → Mem → Prop
  | .nil, P, x, σ, M => P.xe x σ M
  | .cons y n e hs, P, x, σ, M => xNm x.cls = true ∧ (∀ i, n = some i → i < σ.length) ∧ if subX x.cls y = true then wpS e n x M (fun d => P.rt d M) else wH hs P x σ M
mutual
def ws (Γ : Gam) : S → Po → Sl → Mem → Prop
  | .asg t e, P, σ, M => wp Γ e σ M (fun x m => P.xe x σ m) fun d M1 => wpTg t d σ fun σ' => P.nx σ' M1
  | .put o i e, P, σ, M => wp Γ e σ M (fun x m => P.xe x σ m) fun d M1 => wp Γ o σ M1 (fun x m => P.xe x σ m) fun x M2 => wp Γ i σ M2 (fun x m => P.xe x σ m) fun y M3 => opSet x (shr y) (shr d) M3 fun M4 => P.nx σ M4
  | .ex e, P, σ, M => wp Γ e σ M (fun x m => P.xe x σ m) fun _ M1 => P.nx σ M1
  | .ret e, P, σ, M => wp Γ e σ M (fun x m => P.xe x σ m) P.rt
  | .retN, P, _, M => P.rt .non M
  | .ite c a b, P, σ, M => wp Γ c σ M (fun x m => P.xe x σ m) fun x M1 => truth (shr x) M1 fun k => if k = true then wss Γ a P σ M1 else wss Γ b P σ M1
  | .whl c b, P, σ, M => ∃ I : Nat → Sl → Mem → Prop, (∃ m, I m σ M) ∧ ∀ m σ1 M1, I m σ1 M1 → wp Γ c σ1 M1 (fun x m => P.xe x σ1 m) fun x M2 => truth (shr x) M2 fun k =>
      if k = true then wss Γ b { nx := fun σ3 M3 => ∃ m', m' < m ∧ I m' σ3 M3, ct := fun σ3 M3 => ∃ m', m' < m ∧ I m' σ3 M3, bk := P.nx, rt := P.rt, xe := P.xe } σ1 M2 else P.nx σ1 M2
  | .for t it b, P, σ, M => wpI Γ it σ M (fun x m => P.xe x σ m) fun xs gd M1 => ∃ I : Nat → Sl → Mem → Prop, I 0 σ M1 ∧ ∀ i σ2 M2, I i σ2 M2 →
      (∀ g ∈ gd, M2[g.1]? = some g.2) ∧
      (i = xs.length → P.nx σ2 M2) ∧
      ∀ x, xs[i]? = some x → wpTg t x σ2 fun σ3 => wss Γ b { nx := I (i + 1), ct := I (i + 1), bk := P.nx, rt := P.rt, xe := P.xe } σ3 M2
  | .brk, P, σ, M => P.bk σ M
  | .cnt, P, σ, M => P.ct σ M
  | .pass, P, σ, M => P.nx σ M
  | .raise x f es, P, σ, M => wps Γ es σ M (fun x m => P.xe x σ m) fun ds M1 => match f with
      | none => ds = [] ∧ P.xe ⟨x, []⟩ σ M1
      | some g => ∃ d, ds = [d] ∧ P.xe ⟨x, [(g, d)]⟩ σ M1
  | .tryx b hs, P, σ, M => wss Γ b { P with xe := wH hs P } σ M
def wss (Γ : Gam) : Ss → Po → Sl → Mem → Prop
  | .nil, P, σ, M => P.nx σ M
  | .cons s ss, P, σ, M => ws Γ s { P with nx := fun σ' M' => wss Γ ss P σ' M' } σ M
end
end Lay

set_option Elab.async false
set_option maxRecDepth 100000
set_option linter.all false
/-! Lay, part C: how a state of the small language lies in the layer's; the frame of a step. -/
namespace Lay
open PySem L2

section
variable {K : PySem.W.Frag} {ρ ρ' : Rg} {M : Mem} {H H' : Hp}
theorem Rel.mono (r : Rel K ρ M H) (x : Ext ρ H ρ' H') {d : D} {v : V} (h : RD ρ K H d v) : RD ρ' K H' d v := RD.mono r.at x.w d v h
theorem Rel.monos (r : Rel K ρ M H) (x : Ext ρ H ρ' H') {d : List D} {v : List V} (h : RDs ρ K H d v) : RDs ρ' K H' d v := RDs.mono r.at x.w d v h
theorem Rel.monok (r : Rel K ρ M H) (x : Ext ρ H ρ' H') {d : List (Key × D)} {v : List (Key × V)} (h : RDk ρ K H d v) : RDk ρ' K H' d v := RDk.mono r.at x.w d v h
theorem Rel.monosW (r : Rel K ρ M H) (x : Exw ρ H ρ' H') {d : List D} {v : List V} (h : RDs ρ K H d v) : RDs ρ' K H' d v := RDs.mono r.at x d v h
theorem Rel.free (r : Rel K ρ M H) {p : Addr} (hp : H p = none) : ρ.no p := by
  refine ⟨fun q => ?_, fun q => ?_⟩
  · obtain ⟨o, e, _⟩ := r.at p (.inl q)
    rw [hp] at e; cases e
  · obtain ⟨o, e, _⟩ := r.at p (.inr q)
    rw [hp] at e; cases e
theorem RC.monoc (r : Rel K ρ M H) (x : Ext ρ H ρ' H') {c : Cell} {o : HO} (h : RC ρ K H c o) : RC ρ' K H' c o := by
  cases c with
  | lst ds => obtain ⟨xs, e, q⟩ := h; exact ⟨xs, e, r.monos x q⟩
  | dic ds => obtain ⟨xs, e, q⟩ := h; exact ⟨xs, e, r.monok x q⟩
theorem Rel.hids (r : Rel K ρ M H) (x : Ext ρ H ρ' H') : ∀ a ∈ ρ'.h, ∃ o, H' a = some o ∧ IsCell o := fun a ha => by
  rw [x.hd] at ha
  obtain ⟨o, e, q⟩ := r.hid a ha
  exact ⟨o, x.keep a o e fun z => r.apart a z ha, q⟩
/-- all cells as they were -/
theorem Rel.same (r : Rel K ρ M H) (x : Ext ρ H ρ H') (h : ∀ a ∈ ρ.l, H' a = H a) : Rel K ρ M H' := by
  refine ⟨r.nd, r.len, fun n c a e1 e2 => ?_, r.hids x, r.apart⟩
  obtain ⟨o, e3, q⟩ := r.cell n c a e1 e2
  exact ⟨o, (h a (List.mem_of_getElem? e2)).trans e3, q.monoc r x⟩
theorem Ext.alloc {p : Addr} {o : HO} (hp : H p = none) : Ext ρ H ρ (upd H p o) := by
  refine ⟨List.prefix_refl _, rfl, fun _ h n => absurd h n, fun a u h _ => ?_, fun a h => ?_⟩
  · rw [upd_ne (ne_of_none h hp)]; exact h
  · by_cases e : a = p
    · rw [e, upd_same] at h; cases h
    · rwa [upd_ne e] at h
theorem Rel.alloc (r : Rel K ρ M H) {p : Addr} {o : HO} (hp : H p = none) : Rel K ρ M (upd H p o) :=
  r.same (Ext.alloc hp) fun a ha => by
    obtain ⟨u, e, _⟩ := r.at a (.inl ha)
    exact upd_ne (ne_of_none e hp)
/-- a cell is written -/
theorem Ext.write {p : Addr} {o : HO} (hp : p ∈ ρ.l) : Ext ρ H ρ (upd H p o) := by
  refine ⟨List.prefix_refl _, rfl, fun _ h n => absurd h n, fun a u h n => ?_, fun a h => ?_⟩
  · rw [upd_ne (by intro e; rw [e] at n; exact n hp)]; exact h
  · by_cases e : a = p
    · rw [e, upd_same] at h; cases h
    · rwa [upd_ne e] at h
theorem Rel.write (r : Rel K ρ M H) {p : Addr} {o : HO} {n : Nat} {c : Cell} (hn : ρ.l[n]? = some p) (h : RC ρ K (upd H p o) c o) : Rel K ρ (M.set n c) (upd H p o) := by
  refine ⟨r.nd, by rw [List.length_set]; exact r.len, fun m d a e1 e2 => ?_, r.hids (Ext.write (List.mem_of_getElem? hn)), r.apart⟩
  have hl : n < M.length := by rw [← r.len]; exact (List.getElem?_eq_some_iff.mp hn).1
  by_cases hm : m = n
  · subst hm
    rw [hn] at e2; cases e2
    rw [List.getElem?_set_self hl] at e1; cases e1
    exact ⟨o, upd_same, h⟩
  · rw [List.getElem?_set_ne (Ne.symm hm)] at e1
    obtain ⟨u, e3, q⟩ := r.cell m d a e1 e2
    have hap : a ≠ p := by
      intro e
      subst e
      exact hm ((List.getElem?_inj (List.getElem?_eq_some_iff.mp e2).1 r.nd).mp (e2.trans hn.symm))
    exact ⟨u, (upd_ne hap).trans e3, q.monoc r (Ext.write (List.mem_of_getElem? hn))⟩
/-- a new cell -/
theorem Ext.new {p : Addr} {o : HO} (hp : H p = none) : Ext ρ H (ρ.add p) (upd H p o) := by
  refine ⟨List.prefix_append _ _, rfl, fun a ha n => ?_, fun a u h _ => ?_, fun a h => ?_⟩
  · rcases List.mem_append.mp ha with z | z
    · exact absurd z n
    · rw [List.mem_singleton.mp z]; exact hp
  · rw [upd_ne (ne_of_none h hp)]; exact h
  · by_cases e : a = p
    · rw [e]; exact hp
    · rwa [upd_ne e] at h
theorem add_at (r : Rel K ρ M H) (p : Addr) : (ρ.add p).l[M.length]? = some p := by
  show (ρ.l ++ [p])[M.length]? = _
  rw [← r.len]; simp
/-- what was apart gets a cell -/
theorem Rel.take (r : Rel K ρ M H) {p : Addr} {c : Cell} {o : HO} (x : Ext ρ H (ρ.add p) H') (hs : ∀ a ∈ ρ.l, H' a = H a) (hp : ρ.no p) (he : H' p = some o) (h : RC (ρ.add p) K H' c o) : Rel K (ρ.add p) (M ++ [c]) H' := by
  refine ⟨?_, by show (ρ.l ++ [p]).length = _; simp [r.len], fun n d a e1 e2 => ?_, r.hids x, fun a ha => ?_⟩
  · show (ρ.l ++ [p]).Nodup
    rw [List.nodup_append]
    refine ⟨r.nd, by simp, fun a ha b hb => ?_⟩
    have : b = p := by simpa using hb
    subst this
    intro e; subst e; exact hp.1 ha
  · by_cases hn : n < M.length
    · rw [List.getElem?_append_left hn] at e1
      have e2' : ρ.l[n]? = some a := by
        have e3 : (ρ.l ++ [p])[n]? = some a := e2
        rwa [List.getElem?_append_left (by rw [r.len]; exact hn)] at e3
      obtain ⟨u, e3, q⟩ := r.cell n d a e1 e2'
      exact ⟨u, (hs a (List.mem_of_getElem? e2')).trans e3, q.monoc r x⟩
    · have hn' : n = M.length := by
        have := (List.getElem?_eq_some_iff.mp e1).1
        simp at this; omega
      subst hn'
      have e1' : c = d := by simpa using e1
      have e2' : p = a := by
        rw [add_at r p] at e2
        exact Option.some.inj e2
      subst e1' e2'
      exact ⟨o, he, h⟩
  · rcases List.mem_append.mp (show a ∈ ρ.l ++ [p] from ha) with z | z
    · exact r.apart a z
    · rw [List.mem_singleton.mp z]; exact hp.2
theorem Rel.new (r : Rel K ρ M H) {p : Addr} {c : Cell} {o : HO} (hp : H p = none) (h : RC (ρ.add p) K (upd H p o) c o) : Rel K (ρ.add p) (M ++ [c]) (upd H p o) := by
  refine r.take (Ext.new hp) (fun a ha => ?_) (r.free hp) upd_same h
  obtain ⟨u, e, _⟩ := r.at a (.inl ha)
  exact upd_ne (ne_of_none e hp)
/-! a new list or dict that is hidden while it grows -/
theorem RDh_aux {p : Addr} {o : HO} (hp : H p = none) : Ext ρ H ρ (upd H p o) := Ext.alloc hp
end

/-- the slots -/
def RS (K : PySem.W.Frag) (ρ : Rg) (H : Hp) (σ : Sl) (σc : L2.St) : Prop :=
  σ.length = σc.length ∧ ∀ (i : Nat) (d : D), σ[i]? = some (some d) → ∃ v, σc[i]? = some (some v) ∧ RD ρ K H d v
/-- without the object at a -/
def del (H : Hp) (a : Addr) : Hp := fun b => if b = a then none else H b
theorem del_same {H : Hp} {a : Addr} : del H a a = none := by unfold del; rw [if_pos rfl]
theorem del_ne {H : Hp} {a b : Addr} (h : b ≠ a) : del H a b = H b := by unfold del; rw [if_neg h]
theorem del_upd {H : Hp} {a : Addr} {o : HO} (h : H a = none) : del (upd H a o) a = H := by
  funext b
  by_cases e : b = a
  · subst e; rw [del_same, h]
  · rw [del_ne e, upd_ne e]
theorem Ext.undel {ρ : Rg} {H : Hp} {a : Addr} : Ext ρ (del H a) ρ H := by
  refine ⟨List.prefix_refl _, rfl, fun _ h n => absurd h n, fun b o h _ => ?_, fun b h => ?_⟩
  · by_cases e : b = a
    · subst e; rw [del_same] at h; cases h
    · rwa [del_ne e] at h
  · by_cases e : b = a
    · subst e; exact del_same
    · rw [del_ne e]; exact h
def cellOf : D → Option Cell
  | .lst xs => some (.lst xs)
  | .dct ks => some (.dic ks)
  | _ => none
/-- a result; what was just made is held by nobody else -/
def RR (K : PySem.W.Frag) (ρ : Rg) (M : Mem) (H : Hp) (d : D) (v : V) : Prop :=
  RD ρ K H (shr d) v ∧ ∀ e, d = .fr e → ∃ a o c, v = .ref a ∧ H a = some o ∧ cellOf e = some c ∧ Rel K ρ M (del H a) ∧ RC ρ K (del H a) c o
def RX (mg : Str → Option Value) (K : PySem.W.Frag) (ρ : Rg) (H : Hp) (x : Xn) (cls : Value) (dd : Option Addr) : Prop :=
  ∃ C, mg x.cls = some (.ref C) ∧ cls = .ref C ∧
    match dd with
    | none => x.fs = []
    | some d => ∃ fx, H d = some (.xd fx) ∧ Paired (fun (p : Str × D) (q : Str × V) => p.1 = q.1 ∧ RD ρ K H p.2 q.2) x.fs fx

def Kt (K : PySem.W.Frag) (ρ : Rg) (H : Hp) (Q : Kd) (Qc : VK) : Prop :=
  ∀ (ρ' : Rg) (M' : Mem) (H' : Hp) (d : D) (v : V), Ext ρ H ρ' H' → Rel K ρ' M' H' → RR K ρ' M' H' d v → Frs H d v → Q d M' → Qc v H'
def KX (mg : Str → Option Value) (K : PySem.W.Frag) (ρ : Rg) (H : Hp) (X : XP) (Wc : Value → Option Addr → Hp → Prop) : Prop :=
  ∀ (ρ' : Rg) (M' : Mem) (H' : Hp) (x : Xn) (cls : Value) (dd : Option Addr), Ext ρ H ρ' H' → Rel K ρ' M' H' → RX mg K ρ' H' x cls dd → X x M' → Wc cls dd H'

section
variable {mg : Str → Option Value} {K : PySem.W.Frag} {ρ ρ' : Rg} {M : Mem} {H H' : Hp} {σ : Sl} {σc : L2.St} {Q : Kd} {Qc : VK} {X : XP} {Wc : Value → Option Addr → Hp → Prop} {d : D} {v : V}
theorem RS.mono (s : RS K ρ H σ σc) (r : Rel K ρ M H) (x : Ext ρ H ρ' H') : RS K ρ' H' σ σc :=
  ⟨s.1, fun i d e => let ⟨v, e1, h⟩ := s.2 i d e; ⟨v, e1, r.mono x h⟩⟩
theorem Kt.later (k : Kt K ρ H Q Qc) (x : Ext ρ H ρ' H') : Kt K ρ' H' Q Qc := fun ρ2 M2 H2 d v y r rr f q => k ρ2 M2 H2 d v (x.trans y) r rr (f.back x) q
theorem KX.later (k : KX mg K ρ H X Wc) (x : Ext ρ H ρ' H') : KX mg K ρ' H' X Wc := fun ρ2 M2 H2 e c dd y r rx q => k ρ2 M2 H2 e c dd (x.trans y) r rx q
theorem RR.of (h : RD ρ K H d v) : RR K ρ M H d v := by
  cases h <;> refine ⟨?_, fun e q => by cases q⟩
  · exact .non
  · exact .bl _
  · exact .int _
  · exact .str _
  · exact .ty _
  · exact .tup (by assumption) (by assumption)
  · exact .lst (by assumption) (by assumption) (by assumption)
  · exact .fz (by assumption) (by assumption)
  · exact .dct (by assumption) (by assumption) (by assumption)
  · exact .loc (by assumption)
theorem RD.nofr (h : RD ρ K H d v) : ∀ e, d ≠ .fr e := fun e q => by subst q; cases h
theorem RR.mono (r : Rel K ρ M H) (x : Ext ρ H ρ' H') (h : RR K ρ M H d v) : RD ρ' K H' (shr d) v := r.mono x h.1
/-- an old value is handed on -/
theorem Kt.old (k : Kt K ρ H Q Qc) (r : Rel K ρ M H) (h : RD ρ K H d v) (q : Q d M) : Qc v H := k ρ M H d v (Ext.refl _ _) r (RR.of h) (Frs.no h.nofr) q
theorem Kt.non (k : Kt K ρ H Q Qc) (r : Rel K ρ M H) (q : Q .non M) : Qc .non H := k.old r .non q
theorem Kt.int (k : Kt K ρ H Q Qc) (r : Rel K ρ M H) {i : Int} (q : Q (.int i) M) : Qc (.int i) H := k.old r (.int i) q
theorem Kt.bl (k : Kt K ρ H Q Qc) (r : Rel K ρ M H) {i : Bool} (q : Q (.bl i) M) : Qc (.bl i) H := k.old r (.bl i) q
theorem Kt.str (k : Kt K ρ H Q Qc) (r : Rel K ρ M H) {i : Str} (q : Q (.str i) M) : Qc (.str i) H := k.old r (.str i) q
/-- a new tuple -/
theorem Kt.tup (k : Kt K ρ H Q Qc) (r : Rel K ρ M H) {ds : List D} {vs : List V} (h : RDs ρ K H ds vs) (q : Q (.tup ds) M) {p : Addr} (hp : H p = none) : Qc (.ref p) (upd H p (.tup vs)) :=
  k ρ M _ _ _ (Ext.alloc hp) (r.alloc hp) (RR.of (.tup (SqT.of upd_same) (r.monos (Ext.alloc hp) h))) (Frs.no fun _ q => by cases q) q
/-- a new list -/
theorem Kt.lst (k : Kt K ρ H Q Qc) (r : Rel K ρ M H) {ds : List D} {vs : List V} (h : RDs ρ K H ds vs) (q : Q (.fr (.lst ds)) M) {p : Addr} (hp : H p = none) : Qc (.ref p) (upd H p (.lst vs)) := by
  refine k ρ M _ (.fr (.lst ds)) _ (Ext.alloc hp) (r.alloc hp) ⟨.lst upd_same (r.free hp) (r.monos (Ext.alloc hp) h), fun e q => ⟨p, _, .lst ds, rfl, upd_same, by cases q; rfl, by rw [del_upd hp]; exact r, by rw [del_upd hp]; exact ⟨vs, rfl, h⟩⟩⟩ (fun e _ => ⟨p, rfl, hp⟩) q
theorem RDs.len : ∀ {ds : List D} {vs : List V}, RDs ρ K H ds vs → ds.length = vs.length
  | [], _, h => by cases h; rfl
  | _ :: _, _, h => by
    cases h with
    | cons h1 h2 => simp [h2.len]
theorem RDs.get : ∀ {ds : List D} {vs : List V} {i : Nat} {d : D}, RDs ρ K H ds vs → ds[i]? = some d → ∃ v, vs[i]? = some v ∧ RD ρ K H d v
  | [], _, _, _, _, e => by simp at e
  | x :: xs, _, 0, d, h, e => by
    cases h with
    | cons h1 h2 => simp at e; subst e; exact ⟨_, rfl, h1⟩
  | x :: xs, _, i + 1, d, h, e => by
    cases h with
    | cons h1 h2 =>
      obtain ⟨v, e1, q⟩ := h2.get (i := i) (d := d) (by simpa using e)
      exact ⟨v, by simpa using e1, q⟩
theorem RDs.get' : ∀ {ds : List D} {vs : List V} {i : Nat} {v : V}, RDs ρ K H ds vs → vs[i]? = some v → ∃ d, ds[i]? = some d ∧ RD ρ K H d v
  | [], _, _, _, h, e => by cases h; simp at e
  | x :: xs, _, 0, d, h, e => by
    cases h with
    | cons h1 h2 => simp at e; subst e; exact ⟨_, rfl, h1⟩
  | x :: xs, _, i + 1, d, h, e => by
    cases h with
    | cons h1 h2 =>
      obtain ⟨v, e1, q⟩ := h2.get' (i := i) (v := d) (by simpa using e)
      exact ⟨v, by simpa using e1, q⟩
theorem RDs.app : ∀ {ds es : List D} {vs ws : List V}, RDs ρ K H ds vs → RDs ρ K H es ws → RDs ρ K H (ds ++ es) (vs ++ ws)
  | [], _, _, _, h, q => by cases h; exact q
  | _ :: _, _, _, _, h, q => by
    cases h with
    | cons h1 h2 => exact .cons h1 (h2.app q)
theorem RDs.drop : ∀ {ds : List D} {vs : List V} (n : Nat), RDs ρ K H ds vs → RDs ρ K H (ds.drop n) (vs.drop n)
  | _, _, 0, h => h
  | [], _, _ + 1, h => by cases h; exact .nil
  | _ :: _, _, n + 1, h => by
    cases h with
    | cons h1 h2 => exact h2.drop n
theorem RDs.take : ∀ {ds : List D} {vs : List V} (n : Nat), RDs ρ K H ds vs → RDs ρ K H (ds.take n) (vs.take n)
  | _, _, 0, h => by simp; exact .nil
  | [], _, _ + 1, h => by cases h; exact .nil
  | _ :: _, _, n + 1, h => by
    cases h with
    | cons h1 h2 => exact .cons h1 (h2.take n)
theorem RDs.set : ∀ {ds : List D} {vs : List V} (n : Nat) {d : D} {v : V}, RD ρ K H d v → RDs ρ K H ds vs → RDs ρ K H (ds.set n d) (vs.set n v)
  | [], _, _, _, _, _, h => by cases h; exact .nil
  | _ :: _, _, 0, _, _, q, h => by
    cases h with
    | cons h1 h2 => exact .cons q h2
  | _ :: _, _, n + 1, _, _, q, h => by
    cases h with
    | cons h1 h2 => exact .cons h1 (h2.set n q)
theorem RDs.erase : ∀ {ds : List D} {vs : List V} (n : Nat), RDs ρ K H ds vs → RDs ρ K H (ds.eraseIdx n) (vs.eraseIdx n)
  | [], _, _, h => by cases h; exact .nil
  | _ :: _, _, 0, h => by
    cases h with
    | cons h1 h2 => exact h2
  | _ :: _, _, n + 1, h => by
    cases h with
    | cons h1 h2 => exact .cons h1 (h2.erase n)
theorem RDs.rev {ds : List D} {vs : List V} (h : RDs ρ K H ds vs) : RDs ρ K H ds.reverse vs.reverse := by
  induction ds generalizing vs with
  | nil => cases h; exact .nil
  | cons d ds ih =>
    cases h with
    | cons h1 h2 => rw [List.reverse_cons, List.reverse_cons]; exact (ih h2).app (.cons h1 .nil)
theorem RDs.rep {ds : List D} {vs : List V} (h : RDs ρ K H ds vs) : ∀ n : Nat, RDs ρ K H (List.replicate n ds).flatten (List.replicate n vs).flatten
  | 0 => .nil
  | n + 1 => by
    rw [List.replicate_succ, List.replicate_succ, List.flatten_cons, List.flatten_cons]
    exact h.app (h.rep n)
theorem RDs.cut {ds : List D} {vs : List V} (h : RDs ρ K H ds vs) (lo hi : Option Int) : RDs ρ K H (cutD ds lo hi) (cutV vs lo hi) := by
  unfold cutD cutV
  rw [h.len]
  exact (h.drop _).take _
theorem RDs.dropLast {ds : List D} {vs : List V} (h : RDs ρ K H ds vs) : RDs ρ K H ds.dropLast vs.dropLast := by
  rw [List.dropLast_eq_take, List.dropLast_eq_take, h.len]
  exact h.take _

/-- a list that is read: its object -/
theorem lsOf_loc {n : Nat} {xs : List D} (e : lsOf M (.loc n) = some xs) : M[n]? = some (.lst xs) := by
  cases h : M[n]? with
  | none => simp only [lsOf, h] at e; cases e
  | some c =>
    cases c with
    | lst ys => simp only [lsOf, h] at e; cases e; rfl
    | dic ys => simp only [lsOf, h] at e; cases e
theorem dcOf_loc {n : Nat} {xs : List (Key × D)} (e : dcOf M (.loc n) = some xs) : M[n]? = some (.dic xs) := by
  cases h : M[n]? with
  | none => simp only [dcOf, h] at e; cases e
  | some c =>
    cases c with
    | dic ys => simp only [dcOf, h] at e; cases e; rfl
    | lst ys => simp only [dcOf, h] at e; cases e
theorem lsOf_read (r : Rel K ρ M H) {xs : List D} (h : RD ρ K H d v) (e : lsOf M d = some xs) : ∃ a vs, v = .ref a ∧ H a = some (.lst vs) ∧ RDs ρ K H xs vs := by
  cases d with
  | lst ys =>
    cases h with
    | lst h1 h2 h3 => cases e; exact ⟨_, _, rfl, h1, h3⟩
  | loc n =>
    cases h with
    | loc h1 =>
      obtain ⟨o, e1, vs, e2, q⟩ := r.cell _ _ _ (lsOf_loc e) h1
      subst e2
      exact ⟨_, vs, rfl, e1, q⟩
  | _ => cases e
theorem dcOf_read (r : Rel K ρ M H) {xs : List (Key × D)} (h : RD ρ K H d v) (e : dcOf M d = some xs) : ∃ a vs, v = .ref a ∧ H a = some (.dK vs) ∧ RDk ρ K H xs vs := by
  cases d with
  | dct ys =>
    cases h with
    | dct h1 h2 h3 => cases e; exact ⟨_, _, rfl, h1, h3⟩
  | loc n =>
    cases h with
    | loc h1 =>
      obtain ⟨o, e1, vs, e2, q⟩ := r.cell _ _ _ (dcOf_loc e) h1
      subst e2
      exact ⟨_, vs, rfl, e1, q⟩
  | _ => cases e
theorem sqOf_read (r : Rel K ρ M H) {xs : List D} (h : RD ρ K H d v) (e : sqOf M d = some xs) : ∃ a vs, v = .ref a ∧ (SqL K H a vs ∨ SqT K H a vs) ∧ RDs ρ K H xs vs := by
  by_cases ht : ∃ ys, d = .tup ys
  · obtain ⟨ys, rfl⟩ := ht
    cases e
    cases h with
    | tup h1 h2 => exact ⟨_, _, rfl, .inr h1, h2⟩
  · by_cases hf : ∃ ys, d = .fz ys
    · obtain ⟨ys, rfl⟩ := hf
      cases e
      cases h with
      | fz h1 h2 => exact ⟨_, _, rfl, .inl h1.sq, h2⟩
    · have e' : lsOf M d = some xs := by
        cases d <;> first | exact e | exact absurd ⟨_, rfl⟩ ht | exact absurd ⟨_, rfl⟩ hf
      obtain ⟨a, vs, e1, e2, e3⟩ := lsOf_read r h e'
      exact ⟨a, vs, e1, .inl (.of e2), e3⟩
end
end Lay

set_option Elab.async false
set_option maxRecDepth 100000
set_option maxHeartbeats 4000000
set_option linter.all false
/-! Lay, part Mu: a tuple once is the same tuple. -/
namespace Lay
open PySem L2 PyProof.Rows
theorem mul_same (l : Addr) (xs : Array Value) (n : Nat) (dd : Option Addr) (sl : Array (Option Value)) (u : Tok) :
    Meets (Builtin.«tuple.__mul__» ⟨[.ref l, .int 1 u], []⟩) (fun _ R s => s.heap.get? l = some { cls := .type "tuple", dict := dd, data := .seq xs n, slots := sl } ∧ R (.ok (.ret (.ref l))) s) :=
  .of_wp fun prog w A R s h => by
    obtain ⟨hp, g, d, tk, os⟩ := s
    obtain ⟨hl, h⟩ := h
    have f1 := AutoSeq1.idx_int
    have c1 : (xs.isEmpty || (1 : Int) == 1) = true := by simp
    wp_walk using wpAny_loadPart' hl
    exact ⟨_, rfl, h⟩
def rSame (K : PySem.W.Frag) : R2 := fun x y H Q => ∃ l xs, x = .ref l ∧ y = .int 1 ∧ SqT K H l xs ∧ Q (.ref l) H
theorem op_same {X : Cx} : OpR X (binaryOp .Mult) (rSame X.K) := by
  intro pins s σ H x y v u Q I rx ry h
  obtain ⟨l, xs, rfl, rfl, hT, q⟩ := h
  cases rx
  obtain ⟨t, rfl⟩ := ry
  obtain ⟨its, r, ⟨⟨cls, dd, data, sl⟩, ho, hc, n, hd⟩, hs⟩ := I.tuple hT
  simp only at hc hd
  subst hc hd
  exact wpAny_binaryOp_repeat_ref (T := "tuple") (U := "int") (by decide) ⟨_, ho, rfl⟩ (fun s' => typeIs_int s' 1 t) noFill_tuple_mul F.fills_int_mul F.slot_int_rmul repeat_tuple F.slot_int_index.lookup
    (call_meets F.slot_int_rmul (typeIs_int s 1 t) F.entry_int_rmul (F.args_int_rmul_2 _ _) (int_rmul_tuple 1 t l its.toArray n dd sl)
      ⟨ho, rfl, ⟨_, ho, rfl⟩, call_meets F.slot_tuple_mul ⟨_, ho, rfl⟩ F.entry_tuple_mul (F.args_tuple_mul_2 _ _) (mul_same l its.toArray n dd sl t) ⟨ho, .ref l, H, I, rfl, q⟩⟩)
end Lay

set_option Elab.async false
set_option maxRecDepth 100000
set_option linter.all false
/-! Lay, part D: operators and built-ins keep the frame. -/
namespace Lay
open PySem L2

section
variable {K : PySem.W.Frag} {ρ ρ' : Rg} {M : Mem} {H H' : Hp} {Q : Kd} {Qc : VK} {d e : D} {x y v : V}
theorem RD.toInt (h : RD ρ K H (.int i) v) : v = .int i := by cases h; rfl
theorem RD.toStr (h : RD ρ K H (.str i) v) : v = .str i := by cases h; rfl
theorem RD.toBl (h : RD ρ K H (.bl i) v) : v = .bl i := by cases h; rfl
theorem RD.toNon (h : RD ρ K H .non v) : v = .non := by cases h; rfl
theorem RD.toTy (h : RD ρ K H (.ty n) v) : v = .ty n := by cases h; rfl
theorem RD.toTup {ds : List D} (h : RD ρ K H (.tup ds) v) : ∃ a xs, v = .ref a ∧ SqT K H a xs ∧ RDs ρ K H ds xs := by
  cases h with
  | tup h1 h2 => exact ⟨_, _, rfl, h1, h2⟩
theorem RD.toFz {ds : List D} (h : RD ρ K H (.fz ds) v) : ∃ a xs, v = .ref a ∧ SqL K H a xs ∧ RDs ρ K H ds xs := by
  cases h with
  | fz h1 h2 => exact ⟨_, _, rfl, h1.sq, h2⟩
theorem RD.isNon (h : RD ρ K H d v) : Lay.isNon d = decide (v = .non) := by cases h <;> simp [Lay.isNon]
theorem RD.key {k : Key} (h : RD ρ K H d v) (e : d.toKey = some k) : v = kV k := by
  cases h <;> simp [D.toKey] at e
  all_goals (subst e; rfl)
theorem RDs.tupK (k : Kt K ρ H Q Qc) (r : Rel K ρ M H) {ds : List D} {vs : List V} {a : Addr} (h1 : SqT K H a vs) (h2 : RDs ρ K H ds vs) (q : Q (.tup ds) M) : Qc (.ref a) H :=
  k.old r (.tup h1 h2) q
theorem RDs.nilV {ds : List D} {vs : List V} (h : RDs ρ K H ds vs) : (vs = [] ↔ ds = []) := by cases h <;> simp
end

def OpS (K : PySem.W.Frag) (r : R2) (o : D → D → Mem → Kd → Prop) : Prop :=
  ∀ (ρ : Rg) (M : Mem) (H : Hp) (x y : V) (d e : D) (Q : Kd) (Qc : VK), Rel K ρ M H → RD ρ K H d x → RD ρ K H e y → o d e M Q → Kt K ρ H Q Qc → r x y H Qc

def boOp : BO → Operator
  | .add => .Add | .sub => .Sub | .mul => .Mult | .fdiv => .FloorDiv | .mod => .Mod | .pow => .Pow
theorem bo_ok (X : Cx) (o : BO) : ∃ r : R2, OpR X (binaryOp (boOp o)) r ∧ OpS X.K r (op2 o) := by
  cases o with
  | add =>
    refine ⟨_, OpR.or op_add (OpR.or op_add_str (OpR.or op_catA op_cat)), ?_⟩
    intro ρ M H x y d e Q Qc r hx hy h k
    rcases h with ⟨i, j, rfl, rfl, q⟩ | ⟨i, j, rfl, rfl, z, q⟩ | ⟨xs, ys, rfl, rfl, z, q⟩ | ⟨xs, ys, e1, e2, z, q⟩
    · exact .inl ⟨i, j, hx.toInt, hy.toInt, k.int r q⟩
    · exact .inr (.inl ⟨i, j, hx.toStr, hy.toStr, z, k.str r q⟩)
    · refine .inr (.inr (.inl ?_))
      obtain ⟨a, vs, rfl, h1, h2⟩ := hx.toTup
      obtain ⟨b, ws, rfl, h3, h4⟩ := hy.toTup
      refine ⟨a, b, vs, ws, rfl, rfl, h1, h3, by rw [← h2.len, ← h4.len]; exact z, fun e1 => ?_, fun _ e2 => ?_, fun _ _ p hp => k.tup r (h2.app h4) q hp⟩
      · rw [h2.nilV] at e1; subst e1
        exact k.old r (.tup h3 h4) q
      · rw [h4.nilV] at e2; subst e2
        rw [List.append_nil] at q
        exact k.old r (.tup h1 h2) q
    · refine .inr (.inr (.inr ?_))
      obtain ⟨a, vs, rfl, h1, h2⟩ := lsOf_read r hx e1
      obtain ⟨b, ws, rfl, h3, h4⟩ := lsOf_read r hy e2
      exact ⟨a, b, vs, ws, rfl, rfl, h1, h3, by rw [← h2.len, ← h4.len]; exact z, fun p hp => k.lst r (h2.app h4) q hp⟩
  | sub =>
    refine ⟨_, op_sub, ?_⟩
    intro ρ M H x y d e Q Qc r hx hy h k
    obtain ⟨i, j, rfl, rfl, q⟩ := h
    exact ⟨i, j, hx.toInt, hy.toInt, k.int r q⟩
  | mul =>
    refine ⟨_, OpR.or op_mul (OpR.or op_mulW (OpR.or op_rep (OpR.or op_repT op_same))), ?_⟩
    intro ρ M H x y d e Q Qc r hx hy h k
    rcases h with ⟨i, j, rfl, rfl, z, q⟩ | ⟨xs, n, e1, rfl, z1, z2, z3, q⟩ | ⟨xs, n, rfl, rfl, z0, z1, z2, z3, q⟩ | ⟨xs, rfl, rfl, q⟩
    · rcases z with z | z | z
      · exact .inl ⟨i, j, hx.toInt, hy.toInt, .inl z, k.int r q⟩
      · exact .inl ⟨i, j, hx.toInt, hy.toInt, .inr z, k.int r q⟩
      · exact .inr (.inl ⟨i, j, hx.toInt, hy.toInt, z, k.int r q⟩)
    · obtain ⟨a, vs, rfl, h1, h2⟩ := lsOf_read r hx e1
      exact .inr (.inr (.inl ⟨a, n, vs, rfl, hy.toInt, h1, by omega, by omega, by rw [← h2.len]; exact z3, fun p hp => k.lst r (h2.rep _) q hp⟩))
    · obtain ⟨a, vs, rfl, h1, h2⟩ := hx.toTup
      exact .inr (.inr (.inr (.inl ⟨a, n, vs, rfl, hy.toInt, h1, fun e => z0 (h2.nilV.mp e), z1, z2, by rw [← h2.len]; exact z3, fun p hp => k.tup r (h2.rep _) q hp⟩)))
    · obtain ⟨a, vs, rfl, h1, h2⟩ := hx.toTup
      exact .inr (.inr (.inr (.inr ⟨a, vs, rfl, hy.toInt, h1, k.old r (.tup h1 h2) q⟩)))
  | fdiv =>
    refine ⟨_, op_fdivW, ?_⟩
    intro ρ M H x y d e Q Qc r hx hy h k
    obtain ⟨i, j, rfl, rfl, z1, z2, q⟩ := h
    exact ⟨i, j, hx.toInt, hy.toInt, ⟨z1, z2⟩, k.int r q⟩
  | mod =>
    refine ⟨_, op_mod, ?_⟩
    intro ρ M H x y d e Q Qc r hx hy h k
    obtain ⟨i, j, rfl, rfl, z1, q⟩ := h
    exact ⟨i, j, hx.toInt, hy.toInt, z1, k.int r q⟩
  | pow =>
    refine ⟨_, op_pow, ?_⟩
    intro ρ M H x y d e Q Qc r hx hy h k
    obtain ⟨i, j, rfl, rfl, z1, z2, z3, q⟩ := h
    exact ⟨i, j, hx.toInt, hy.toInt, ⟨z1, z2, z3⟩, k.int r q⟩

/-! ### data -/
section
variable {K : PySem.W.Frag} {ρ : Rg} {M : Mem} {H : Hp}
mutual
theorem Py.dp (r : Rel K ρ M H) : ∀ (p : PyData) (d : D) (v : V), Py M d p → p.canLay0 = true → RD ρ K H d v → Dp K H v p
  | .none, _, _, h, _, q => by cases h; cases q; exact .non
  | .bool _, _, _, h, _, q => by cases h; cases q; exact .bl _
  | .int _, _, _, h, _, q => by cases h; cases q; exact .int _
  | .str _, _, _, h, _, q => by cases h; cases q; exact .str _
  | .tuple ps, _, _, h, c, q => by
    cases h with
    | tup h1 =>
      cases q with
      | tup h2 h3 => exact .tup h2 (Pys.dp r ps _ _ h1 (by simpa [PyData.canLay0] using c) h3)
  | .list ps, _, _, h, c, q => by
    cases h with
    | lst h1 =>
      cases q with
      | lst h2 _ h3 => exact .lst (SqL.of h2) (Pys.dp r ps _ _ h1 (by simpa [PyData.canLay0] using c) h3)
    | locL h1 h2 =>
      cases q with
      | loc h3 =>
        obtain ⟨o, e1, vs, e2, h4⟩ := r.cell _ _ _ h1 h3
        subst e2
        exact .lst (SqL.of e1) (Pys.dp r ps _ _ h2 (by simpa [PyData.canLay0] using c) h4)
  | .dict _, _, _, _, c, _ => by simp [PyData.canLay0] at c
theorem Pys.dp (r : Rel K ρ M H) : ∀ (ps : List PyData) (ds : List D) (vs : List V), Pys M ds ps → PyData.canLayAll0 ps = true → RDs ρ K H ds vs → DpAll K H vs ps
  | [], _, _, h, _, q => by cases h; cases q; exact .nil
  | p :: ps, _, _, h, c, q => by
    cases h with
    | cons h1 h2 =>
      cases q with
      | cons q1 q2 =>
        have c' : p.canLay0 = true ∧ PyData.canLayAll0 ps = true := by simpa [PyData.canLayAll0] using c
        exact .cons (Py.dp r p _ _ h1 c'.1 q1) (Pys.dp r ps _ _ h2 c'.2 q2)
end
theorem Py.dps (r : Rel K ρ M H) {p : PyData} {d : D} {v : V} (h : Py M d p) (s : SeqAt.shaped p = true) (q : RD ρ K H d v) : Dp K H v p :=
  Py.dp r p d v h (SeqAt.canLay_of_shaped s) q
theorem RDk.look : ∀ {ks : List (Key × D)} {kx : List (Key × V)} {k : Key}, RDk ρ K H ks kx → (∀ d, lookK ks k = some d → ∃ v, valV kx k = some v ∧ RD ρ K H d v) ∧ (lookK ks k).isSome = (valV kx k).isSome
  | [], _, k, h => by cases h; exact ⟨fun d e => by simp [lookK] at e, rfl⟩
  | (j, e) :: ks, _, k, h => by
    cases h with
    | @cons _ _ v _ vs h1 h2 =>
      by_cases hk : j = k
      · subst hk
        rw [valV_pos (p := (j, v)) rfl]
        refine ⟨fun d q => ⟨v, rfl, ?_⟩, by simp [lookK]⟩
        simp [lookK] at q
        subst q; exact h1
      · have e1 : lookK ((j, e) :: ks) k = lookK ks k := by simp [lookK, hk]
        rw [valV_neg (p := (j, v)) hk, e1]
        exact h2.look
theorem RDk.any {k : Key} : ∀ {ks : List (Key × D)} {kx : List (Key × V)}, RDk ρ K H ks kx → ks.any (fun p => decide (p.1 = k)) = kx.any (fun p => decide (p.1 = k))
  | [], _, h => by cases h; rfl
  | (j, e) :: ks, _, h => by
    cases h with
    | cons h1 h2 => simp [h2.any]
theorem RDk.len : ∀ {ks : List (Key × D)} {kx : List (Key × V)}, RDk ρ K H ks kx → ks.length = kx.length
  | [], _, h => by cases h; rfl
  | (j, e) :: ks, _, h => by
    cases h with
    | cons h1 h2 => simp [h2.len]
theorem RDk.app : ∀ {ks js : List (Key × D)} {kx jx : List (Key × V)}, RDk ρ K H ks kx → RDk ρ K H js jx → RDk ρ K H (ks ++ js) (kx ++ jx)
  | [], _, _, _, h, q => by cases h; exact q
  | (j, e) :: ks, _, _, _, h, q => by
    cases h with
    | cons h1 h2 => exact .cons h1 (h2.app q)
theorem RDk.map {k : Key} {d : D} {v : V} (hd : RD ρ K H d v) : ∀ {ks : List (Key × D)} {kx : List (Key × V)}, RDk ρ K H ks kx →
    RDk ρ K H (ks.map fun p => if p.1 = k then (p.1, d) else p) (kx.map fun p => if p.1 = k then (p.1, v) else p)
  | [], _, h => by cases h; exact .nil
  | (j, e) :: ks, _, h => by
    cases h with
    | @cons _ _ u _ vs h1 h2 =>
      by_cases hk : j = k
      · subst hk
        simpa using RDk.cons hd (RDk.map hd h2)
      · simpa [hk] using RDk.cons h1 (RDk.map hd h2)
theorem RDk.put {k : Key} {d : D} {v : V} {ks : List (Key × D)} {kx : List (Key × V)} (hd : RD ρ K H d v) (h : RDk ρ K H ks kx) : RDk ρ K H (putK' ks k d) (putK kx k v) := by
  unfold putK' putK
  rw [h.any]
  split
  · exact h.map hd
  · exact h.app (.cons hd .nil)
theorem putK'_len (ks : List (Key × D)) (k : Key) (d : D) : (putK' ks k d).length ≤ ks.length + 1 := by
  unfold putK'
  split <;> simp
end

def coOp : CO → CmpOp
  | .eq => .Eq | .ne => .NotEq | .lt => .Lt | .le => .LtE | .gt => .Gt | .ge => .GtE | .is => .Is | .isnot => .IsNot | .isin => .In | .notin => .NotIn
def OpSB (K : PySem.W.Frag) (r : R2) (o : D → D → Mem → (Bool → Prop) → Prop) : Prop :=
  ∀ (ρ : Rg) (M : Mem) (H : Hp) (x y : V) (d e : D) (Q : Bool → Prop) (Qc : VK), Rel K ρ M H → RD ρ K H d x → RD ρ K H e y → o d e M Q → (∀ b, Q b → Qc (.bl b) H) → r x y H Qc
theorem op_dict_in {X : Cx} (hu : X.A.units + 1 < cLine) : OpR X (compareOp .In) (fun x y H Q => ∃ a o, y = .ref a ∧ DGet H a x o ∧ Q (.bl o.isSome) H) := by
  intro ps s st Hh x y v u Q J rx ry hq
  obtain ⟨a, o, ey, g, q⟩ := hq
  subst ey
  cases ry
  exact d_in hu J g rx fun s3 J3 => ⟨.bl _, Hh, J3, rfl, q⟩
theorem op_dict_notin {X : Cx} (hu : X.A.units + 1 < cLine) : OpR X (compareOp .NotIn) (fun x y H Q => ∃ a o, y = .ref a ∧ DGet H a x o ∧ Q (.bl (!o.isSome)) H) := by
  intro ps s st Hh x y v u Q J rx ry hq
  obtain ⟨a, o, ey, g, q⟩ := hq
  subst ey
  cases ry
  exact d_notIn hu J g rx fun s3 J3 => ⟨.bl _, Hh, J3, rfl, q⟩
theorem op_in_tup {X : Cx} (hu : X.A.units + 65 < cLine) : OpR X (compareOp .In) (fun x y H Q => ∃ p ps, Dp X.K H x p ∧ Dp X.K H y (.tuple ps) ∧ SeqAt.shaped p = true ∧ SeqAt.shaped (.tuple ps) = true ∧ Q (.bl (ps.any fun z => PyData.eqv z p)) H) := by
  intro pins s σ H x y v u Q J r1 r2 hq
  obtain ⟨p, ps, h1, h2, s1, s2, q⟩ := hq
  obtain ⟨as, g1⟩ := Dp.reads J p x v h1 r1
  obtain ⟨bs, g2⟩ := Dp.reads J (.tuple ps) y u h2 r2
  exact SeqAt.in_tuple_reads g2 g1 (SeqAt.canLay_of_shaped s2) (SeqAt.canLay_of_shaped s1) (PyProof.Rows.room_in_shaped s1 hu) ⟨V.bl _, H, J, rfl, q⟩
theorem op_notin_tup {X : Cx} (hu : X.A.units + 65 < cLine) : OpR X (compareOp .NotIn) (fun x y H Q => ∃ p ps, Dp X.K H x p ∧ Dp X.K H y (.tuple ps) ∧ SeqAt.shaped p = true ∧ SeqAt.shaped (.tuple ps) = true ∧ Q (.bl (!ps.any fun z => PyData.eqv z p)) H) := by
  intro pins s σ H x y v u Q J r1 r2 hq
  obtain ⟨p, ps, h1, h2, s1, s2, q⟩ := hq
  obtain ⟨as, g1⟩ := Dp.reads J p x v h1 r1
  obtain ⟨bs, g2⟩ := Dp.reads J (.tuple ps) y u h2 r2
  exact SeqAt.notIn_tuple_reads g2 g1 (SeqAt.canLay_of_shaped s2) (SeqAt.canLay_of_shaped s1) (PyProof.Rows.room_in_shaped s1 hu) ⟨V.bl _, H, J, rfl, q⟩
/-- a list and an empty one -/
def rNeNil (K : PySem.W.Frag) : R2 := fun x y H Q => ∃ a b xs, x = .ref a ∧ y = .ref b ∧ SqL K H a xs ∧ SqL K H b [] ∧ Q (.bl (!xs.isEmpty)) H
theorem op_neNil {X : Cx} (hu : X.A.units < cLine) : OpR X (compareOp .NotEq) (rNeNil X.K) := by
  intro pins s σ H x y v u Q I rx ry h
  obtain ⟨a, b, xs, rfl, rfl, h1, h2, q⟩ := h
  obtain ⟨its, rv, hl, _⟩ := I.list h1
  obtain ⟨its2, rv2, hl2, _⟩ := I.list h2
  cases rx
  cases ry
  cases rv2
  cases rv with
  | nil => exact PySem.SeqAt.RcNeAt.lists (e := fun _ => true) hl.isList hl2.isList rfl hu (fun j h1 _ => absurd h1 (by simp)) X.prog X.w _ _ ⟨.bl _, H, I, rfl, q⟩
  | cons h1 h2 => exact PySem.SeqAt.RcNeAt.lists_lengths hl.isList hl2.isList rfl hu X.prog X.w _ _ ⟨.bl _, H, I, rfl, q⟩
theorem co_ok (X : Cx) (hu : X.A.units + 66 < cLine) (o : CO) : ∃ r : R2, OpR X (compareOp (coOp o)) r ∧ OpSB X.K r (opC o) := by
  cases o with
  | eq =>
    refine ⟨_, OpR.or op_eq (op_eqD (by omega)), ?_⟩
    intro ρ M H x y d e Q Qc r hx hy h k
    rcases h with ⟨a, b, rfl, rfl, z⟩ | ⟨p, q, h1, h2, s1, s2, z⟩
    · rw [hx.toStr, hy.toStr]
      exact .inl ⟨rfl, by have := k _ z; simpa using this⟩
    · exact .inr ⟨p, q, h1.dps r s1 hx, h2.dps r s2 hy, s1, s2, k _ z⟩
  | ne =>
    refine ⟨_, OpR.or (OpR.or op_ne (op_neNil (by omega))) (op_neD (by omega)), ?_⟩
    intro ρ M H x y d e Q Qc r hx hy h k
    rcases h with (⟨a, b, rfl, rfl, z⟩ | ⟨xs, e1, e2, z⟩) | ⟨p, q, h1, h2, s1, s2, z⟩
    · rw [hx.toStr, hy.toStr]
      exact .inl (.inl ⟨rfl, by have := k _ z; simpa using this⟩)
    · obtain ⟨a, vs, rfl, e3, e4⟩ := lsOf_read r hx e1
      obtain ⟨b, us, rfl, e5, e6⟩ := lsOf_read r hy e2
      cases e6
      refine .inl (.inr ⟨a, b, vs, rfl, rfl, SqL.of e3, SqL.of e5, ?_⟩)
      have : vs.isEmpty = xs.isEmpty := by cases e4 <;> rfl
      rw [this]
      exact k _ z
    · exact .inr ⟨p, q, h1.dps r s1 hx, h2.dps r s2 hy, s1, s2, k _ z⟩
  | lt =>
    refine ⟨_, op_lt, ?_⟩
    intro ρ M H x y d e Q Qc r hx hy h k
    obtain ⟨i, j, rfl, rfl, z⟩ := h
    exact ⟨i, j, hx.toInt, hy.toInt, k _ z⟩
  | le =>
    refine ⟨_, op_le, ?_⟩
    intro ρ M H x y d e Q Qc r hx hy h k
    obtain ⟨i, j, rfl, rfl, z⟩ := h
    exact ⟨i, j, hx.toInt, hy.toInt, k _ z⟩
  | gt =>
    refine ⟨_, op_gt, ?_⟩
    intro ρ M H x y d e Q Qc r hx hy h k
    obtain ⟨i, j, rfl, rfl, z⟩ := h
    exact ⟨i, j, hx.toInt, hy.toInt, k _ z⟩
  | ge =>
    refine ⟨_, op_ge, ?_⟩
    intro ρ M H x y d e Q Qc r hx hy h k
    obtain ⟨i, j, rfl, rfl, z⟩ := h
    exact ⟨i, j, hx.toInt, hy.toInt, k _ z⟩
  | is =>
    refine ⟨_, op_isN, ?_⟩
    intro ρ M H x y d e Q Qc r hx hy h k
    obtain ⟨rfl, z⟩ := h
    exact ⟨hy.toNon, by rw [← hx.isNon]; exact k _ z⟩
  | isnot =>
    refine ⟨_, op_notN, ?_⟩
    intro ρ M H x y d e Q Qc r hx hy h k
    obtain ⟨rfl, z⟩ := h
    exact ⟨hy.toNon, by rw [← hx.isNon]; exact k _ z⟩
  | isin =>
    refine ⟨_, OpR.or op_in_str (OpR.or (op_inD (by omega)) (OpR.or (op_dict_in (by omega)) (op_in_tup (by omega)))), ?_⟩
    intro ρ M H x y d e Q Qc r hx hy h k
    rcases h with ⟨i, j, rfl, rfl, z⟩ | ⟨ds, p, ps, e1, h1, h2, s1, s2, z⟩ | ⟨ks, kk, e1, e2, z⟩ | ⟨ds, p, ps, rfl, h1, h2, s1, s2, z⟩
    · exact .inl ⟨i, j, hx.toStr, hy.toStr, k _ z⟩
    · refine .inr (.inl ⟨p, ps, h1.dps r s1 hx, ?_, s1, s2, k _ z⟩)
      obtain ⟨a, vs, rfl, e3, e4⟩ := lsOf_read r hy e1
      exact .lst (SqL.of e3) (Pys.dp r ps _ _ h2 (by simpa [PyData.canLay0] using SeqAt.canLay_of_shaped s2) e4)
    · obtain ⟨a, kx, rfl, e3, e4⟩ := dcOf_read r hy e1
      refine .inr (.inr (.inl ⟨a, valV kx kk, rfl, ?_, ?_⟩))
      · rw [hx.key e2]; exact DGet.k e3
      · rw [← e4.look.2]; exact k _ z
    · refine .inr (.inr (.inr ⟨p, ps, h1.dps r s1 hx, ?_, s1, s2, k _ z⟩))
      obtain ⟨a, vs, rfl, e3, e4⟩ := hy.toTup
      exact .tup e3 (Pys.dp r ps _ _ h2 (by simpa [PyData.canLay0] using SeqAt.canLay_of_shaped s2) e4)
  | notin =>
    refine ⟨_, OpR.or op_notin_str (OpR.or (op_notInD (by omega)) (OpR.or (op_dict_notin (by omega)) (op_notin_tup (by omega)))), ?_⟩
    intro ρ M H x y d e Q Qc r hx hy h k
    rcases h with ⟨i, j, rfl, rfl, z⟩ | ⟨ds, p, ps, e1, h1, h2, s1, s2, z⟩ | ⟨ks, kk, e1, e2, z⟩ | ⟨ds, p, ps, rfl, h1, h2, s1, s2, z⟩
    · exact .inl ⟨i, j, hx.toStr, hy.toStr, k _ z⟩
    · refine .inr (.inl ⟨p, ps, h1.dps r s1 hx, ?_, s1, s2, k _ z⟩)
      obtain ⟨a, vs, rfl, e3, e4⟩ := lsOf_read r hy e1
      exact .lst (SqL.of e3) (Pys.dp r ps _ _ h2 (by simpa [PyData.canLay0] using SeqAt.canLay_of_shaped s2) e4)
    · obtain ⟨a, kx, rfl, e3, e4⟩ := dcOf_read r hy e1
      refine .inr (.inr (.inl ⟨a, valV kx kk, rfl, ?_, ?_⟩))
      · rw [hx.key e2]; exact DGet.k e3
      · rw [← e4.look.2]; exact k _ z
    · refine .inr (.inr (.inr ⟨p, ps, h1.dps r s1 hx, ?_, s1, s2, k _ z⟩))
      obtain ⟨a, vs, rfl, e3, e4⟩ := hy.toTup
      exact .tup e3 (Pys.dp r ps _ _ h2 (by simpa [PyData.canLay0] using SeqAt.canLay_of_shaped s2) e4)
end Lay

set_option Elab.async false
set_option maxRecDepth 100000
set_option linter.all false
/-! Lay, part E: expressions. -/
namespace Lay
open PySem L2 PyProof.Rows

abbrev WL := Sl → Mem → XP → (List D → Mem → Prop) → Prop
/-- a test's value: what its truth leads to -/
def Kb (K : PySem.W.Frag) (ρ : Rg) (H : Hp) (Q : Kd) (Qc : Bool → Hp → Prop) : Prop :=
  ∀ (ρ' : Rg) (M' : Mem) (H' : Hp) (d : D) (v : V), Ext ρ H ρ' H' → Rel K ρ' M' H' → RR K ρ' M' H' d v → Q d M' → truth (shr d) M' fun b => Qc b H'
def Ks (K : PySem.W.Frag) (ρ : Rg) (H : Hp) (Q : List D → Mem → Prop) (Qc : List V → Hp → Prop) : Prop :=
  ∀ (ρ' : Rg) (M' : Mem) (H' : Hp) (ds : List D) (vs : List V), Ext ρ H ρ' H' → Rel K ρ' M' H' → RDs ρ' K H' ds vs → Q ds M' → Qc vs H'
theorem Kb.later {K : PySem.W.Frag} {ρ ρ' : Rg} {H H' : Hp} {Q : Kd} {Qc : Bool → Hp → Prop} (k : Kb K ρ H Q Qc) (x : Ext ρ H ρ' H') : Kb K ρ' H' Q Qc :=
  fun ρ2 M2 H2 d v y r rr q => k ρ2 M2 H2 d v (x.trans y) r rr q
theorem Ks.later {K : PySem.W.Frag} {ρ ρ' : Rg} {H H' : Hp} {Q : List D → Mem → Prop} {Qc : List V → Hp → Prop} (k : Ks K ρ H Q Qc) (x : Ext ρ H ρ' H') : Ks K ρ' H' Q Qc :=
  fun ρ2 M2 H2 b v y r q => k ρ2 M2 H2 b v (x.trans y) r q
theorem truth_mono {d : D} {M : Mem} {Q Q' : Bool → Prop} (h : ∀ b, Q b → Q' b) (t : truth d M Q) : truth d M Q' := by
  rcases t with ⟨c, e, q⟩ | ⟨e, q⟩ | ⟨i, e, q⟩ | ⟨xs, e, q⟩ | ⟨x, e, z, q⟩
  · exact .inl ⟨c, e, h _ q⟩
  · exact .inr (.inl ⟨e, h _ q⟩)
  · exact .inr (.inr (.inl ⟨i, e, h _ q⟩))
  · exact .inr (.inr (.inr (.inl ⟨xs, e, h _ q⟩)))
  · exact .inr (.inr (.inr (.inr ⟨x, e, z, h _ q⟩)))
theorem truth_bl {b : Bool} {M : Mem} {Q : Bool → Prop} : truth (.bl b) M Q ↔ Q b := by
  constructor
  · rintro (⟨c, e, q⟩ | ⟨e, q⟩ | ⟨i, e, q⟩ | ⟨xs, e, q⟩ | ⟨x, e, q⟩)
    · cases e; exact q
    · cases e
    · cases e
    · cases e
    · cases e
  · intro q; exact .inl ⟨b, rfl, q⟩

/-- an expression's reading, of what the small language asks -/
def TM (X : Cx) (W : WX) (m : WE) : TE := fun σc H Qc => ∃ ρ M σ Q Xp, Rel X.K ρ M H ∧ RS X.K ρ H σ σc ∧ m σ M Xp Q ∧ Kt X.K ρ H Q Qc ∧ KX X.mg X.K ρ H Xp fun c d H' => W c d σc H'
def TMT (X : Cx) (W : WX) (m : WE) : TT := fun σc H Qc => ∃ ρ M σ Q Xp, Rel X.K ρ M H ∧ RS X.K ρ H σ σc ∧ m σ M Xp Q ∧ Kb X.K ρ H Q Qc ∧ KX X.mg X.K ρ H Xp fun c d H' => W c d σc H'
def TML (X : Cx) (W : WX) (m : WL) : TA := fun σc H Qc => ∃ ρ M σ Q Xp, Rel X.K ρ M H ∧ RS X.K ρ H σ σc ∧ m σ M Xp Q ∧ Ks X.K ρ H Q Qc ∧ KX X.mg X.K ρ H Xp fun c d H' => W c d σc H'

theorem _root_.L2.PE.sub {X : Cx} {e : Expr} {t t' : TE} (h : PE X e t) (i : ∀ σ H Q, t' σ H Q → t σ H Q) : PE X e t' := ⟨fun a b c d e J q => h.run a b c d e J (i _ _ _ q)⟩
theorem _root_.L2.PT.sub {X : Cx} {e : Expr} {t t' : TT} (h : PT X e t) (i : ∀ σ H Q, t' σ H Q → t σ H Q) : PT X e t' := ⟨fun a b c d e J q => h.run a b c d e J (i _ _ _ q)⟩
theorem _root_.L2.PA.sub {X : Cx} {e : List Expr} {t t' : TA} (h : PA X e t) (i : ∀ σ H Q, t' σ H Q → t σ H Q) : PA X e t' := ⟨fun z a b c d e J q => h.run z a b c d e J (i _ _ _ q)⟩

abbrev mBin (o : BO) (ma mb : WE) : WE := fun σ M Xp Q => ma σ M Xp fun x M1 => mb σ M1 Xp fun y M2 => op2 o (shr x) (shr y) M2 Q
abbrev mNeg (ma : WE) : WE := fun σ M Xp Q => ma σ M Xp fun x M1 => ∃ i, x = .int i ∧ Q (.int (-i)) M1
abbrev mIx (ma mb : WE) : WE := fun σ M Xp Q => ma σ M Xp fun x M1 => mb σ M1 Xp fun y M2 => opIx (shr x) (shr y) M2 fun d => Q d M2
abbrev mIte (mc ma mb : WE) : WE := fun σ M Xp Q => mc σ M Xp fun x M1 => truth (shr x) M1 fun k => if k = true then ma σ M1 Xp Q else mb σ M1 Xp Q
abbrev mAnd (ma mb : WE) : WE := fun σ M Xp Q => ma σ M Xp fun x M1 => truth (shr x) M1 fun c => if c = true then mb σ M1 Xp Q else Q x M1
abbrev mOr (ma mb : WE) : WE := fun σ M Xp Q => ma σ M Xp fun x M1 => truth (shr x) M1 fun c => if c = true then Q x M1 else mb σ M1 Xp Q
abbrev mNot (ma : WE) : WE := fun σ M Xp Q => ma σ M Xp fun x M1 => truth (shr x) M1 fun b => Q (.bl (!b)) M1

section
variable {X : Cx} {W : WX} {a b c i : Expr} {ma mb mc : WE} {pos : Pos}

theorem se_v {x : Str} {n : Nat} (hN : X.N[n]? = some x) (hv : Vis X.env.scope x) (hd : (x == ("__debug__" : Str)) = false) (hc : (x == ("__classdict__" : Str)) = false) :
    PE X (.Name x pos) (TM X W fun σ M _ Q => ∃ d, σ[n]? = some (some d) ∧ Q d M) := by
  refine (pe_var hN hv hd hc).sub fun σc H Qc h => ?_
  obtain ⟨ρ, M, σ, Q, Xp, r, s, ⟨d, e, q⟩, k, kx⟩ := h
  obtain ⟨v, e1, hd⟩ := s.2 n d e
  exact ⟨v, e1, k.old r hd q⟩
theorem se_c {d : D} {v : V} (h : PE X a (tC v)) (hd : ∀ ρ H, RD ρ X.K H d v) : PE X a (TM X W fun _ M _ Q => Q d M) := by
  refine h.sub fun σc H Qc h => ?_
  obtain ⟨ρ, M, σ, Q, Xp, r, s, q, k, kx⟩ := h
  exact k.old r (hd ρ H) q
theorem se_bin (o : BO) (ha : PE X a (TM X W ma)) (hb : PE X b (TM X W mb)) : PE X (.BinOp a (boOp o) b pos) (TM X W (mBin o ma mb)) := by
  obtain ⟨r2, h2, hs⟩ := bo_ok X o
  refine (pe_op h2 ha hb).sub fun σc H Qc h => ?_
  obtain ⟨ρ, M, σ, Q, Xp, r, s, h, k, kx⟩ := h
  refine ⟨ρ, M, σ, _, Xp, r, s, h, fun ρ1 M1 H1 d v e1 r1 d1 _ h1 => ⟨ρ1, M1, σ, _, Xp, r1, s.mono r e1, h1, fun ρ2 M2 H2 d2 v2 e2 r2 d2' _ h2 => ?_, kx.later e1⟩, kx⟩
  exact hs ρ2 M2 H2 _ _ _ _ Q Qc r2 (d1.mono r1 e2) d2'.1 h2 (k.later (e1.trans e2))
theorem se_neg (ha : PE X a (TM X W ma)) : PE X (.UnaryOp .USub a pos) (TM X W (mNeg ma)) := by
  refine (pe_un un_neg ha).sub fun σc H Qc h => ?_
  obtain ⟨ρ, M, σ, Q, Xp, r, s, h, k, kx⟩ := h
  refine ⟨ρ, M, σ, _, Xp, r, s, h, fun ρ1 M1 H1 d v e1 r1 d1 _ h1 => ?_, kx⟩
  obtain ⟨i, rfl, q⟩ := h1
  exact ⟨i, d1.1.toInt, (k.later e1).int r1 q⟩

/-! ### truth -/
theorem truth_ok {ρ : Rg} {M : Mem} {H : Hp} {d : D} {v : V} {Q : Bool → Prop} (r : Rel X.K ρ M H) (h : RD ρ X.K H d v) (t : truth d M Q) : ∃ k, TruV X.K v H k ∧ Q k := by
  rcases t with ⟨b, rfl, q⟩ | ⟨rfl, q⟩ | ⟨i, rfl, q⟩ | ⟨xs, e, q⟩ | ⟨x, rfl, z, q⟩
  · rw [h.toBl]; exact ⟨_, rfl, q⟩
  · rw [h.toNon]; exact ⟨_, rfl, q⟩
  · rw [h.toInt]; exact ⟨_, rfl, q⟩
  · obtain ⟨a, vs, rfl, e1, e2⟩ := sqOf_read r h e
    refine ⟨!xs.isEmpty, ?_, q⟩
    have : xs.isEmpty = vs.isEmpty := by
      cases xs <;> cases vs <;> first | rfl | (cases e2)
    rw [this]
    rcases e1 with e1 | e1
    · exact .inl ⟨vs, e1, rfl⟩
    · exact .inr (.inl ⟨vs, e1, rfl⟩)
  · rw [h.toStr]; exact ⟨_, ⟨z, rfl⟩, q⟩
/-- a test that is plainly its value's truth -/
theorem st_plain (ha : PE X a (TM X W ma)) (he : ∀ whole, isTrue a X.env whole = (do let v ← whole; standAt a.pos; holding [v] (truthy v))) : PT X a (TMT X W ma) := by
  refine (pt_truth ha he).sub fun σc H Qc h => ?_
  obtain ⟨ρ, M, σ, Q, Xp, r, s, h, k, kx⟩ := h
  exact ⟨ρ, M, σ, _, Xp, r, s, h, fun ρ1 M1 H1 d v e1 r1 d1 _ h1 => truth_ok r1 d1.1 (k ρ1 M1 H1 d v e1 r1 d1 h1), kx⟩
theorem bl_RR {K : PySem.W.Frag} {ρ : Rg} {M : Mem} {H : Hp} {b : Bool} : RR K ρ M H (.bl b) (.bl b) := RR.of (.bl b)
theorem st_not (ha : PT X a (TMT X W ma)) : PT X (.UnaryOp .Not a pos) (TMT X W (mNot ma)) := by
  refine (pt_not ha).sub fun σc H Qc h => ?_
  obtain ⟨ρ, M, σ, Q, Xp, r, s, h, k, kx⟩ := h
  exact ⟨ρ, M, σ, _, Xp, r, s, h, fun ρ1 M1 H1 d v e1 r1 _ h1 => truth_mono (fun b q => truth_bl.mp (k ρ1 M1 H1 _ _ e1 r1 bl_RR q)) h1, kx⟩
theorem se_not (ha : PE X a (TM X W ma)) : PE X (.UnaryOp .Not a pos) (TM X W (mNot ma)) := by
  refine ⟨fun ps s σc H Qc J h => ?_⟩
  obtain ⟨ρ, M, σ, Q, Xp, r, sl, h, k, kx⟩ := h
  have h1 : TM X W ma σc H fun v H1 => ∃ b, TruV X.K v H1 b ∧ Qc (.bl (!b)) H1 := ⟨ρ, M, σ, _, Xp, r, sl, h, fun ρ1 M1 H1 d v e1 r1 d1 _ h1 => by
    obtain ⟨b, hb, q⟩ := truth_ok r1 d1.1 h1
    exact ⟨b, hb, (k.later e1).bl r1 q⟩, kx⟩
  refine UnaryOp_ (thn (ha.run ps s σc H _ J h1) fun u s1 ⟨v, H1, J1, r1, b, hb, q⟩ => not_of ?_)
  exact thn (tru_ok ps s1 σc H1 v u (fun c H2 => c = b ∧ H2 = H1) J1 r1 ⟨b, hb, rfl, rfl⟩) fun c s2 ⟨H2, J2, e1, e2⟩ => by
    subst e1 e2
    exact ⟨.bl (!c), H2, J2, rfl, q⟩
/-! ### and, or -/
variable {rest : List Expr}
theorem se_and (ha : PE X a (TM X W ma)) (hb : PE X (.BoolOp .And (b :: rest) pos) (TM X W mb)) : PE X (.BoolOp .And (a :: b :: rest) pos) (TM X W (mAnd ma mb)) := by
  refine ⟨fun ps s σc H Qc J h => ?_⟩
  obtain ⟨ρ, M, σ, Q, Xp, r, sl, h, k, kx⟩ := h
  have h1 : TM X W ma σc H fun v H1 => ∃ c, TruV X.K v H1 c ∧ if c = true then TM X W mb σc H1 Qc else Qc v H1 := ⟨ρ, M, σ, _, Xp, r, sl, h, fun ρ1 M1 H1 d v e1 r1 d1 fr h1 => by
    obtain ⟨c, hc, q⟩ := truth_ok r1 d1.1 h1
    refine ⟨c, hc, ?_⟩
    cases c with
    | true => rw [if_pos rfl] at q ⊢; exact ⟨ρ1, M1, σ, Q, Xp, r1, sl.mono r e1, q, k.later e1, kx.later e1⟩
    | false => rw [if_neg Bool.false_ne_true] at q ⊢; exact k ρ1 M1 H1 d v e1 r1 d1 fr q, kx⟩
  refine BoolOp_and (thn (ha.run ps s σc H _ J h1) fun u s1 ⟨v, H1, J1, r1, c, hc, q⟩ => ?_)
  refine thn (tru_ok ps s1 σc H1 v u (fun c' H2 => c' = c ∧ H2 = H1) J1 r1 ⟨c, hc, rfl, rfl⟩) fun c' s2 ⟨H2, J2, e1, e2⟩ => ?_
  subst e1 e2
  cases c' with
  | true => rw [if_pos rfl] at q ⊢; exact hb.run ps s2 σc H2 Qc J2 q
  | false => rw [if_neg Bool.false_ne_true] at q ⊢; exact ⟨v, H2, J2, r1, q⟩
theorem se_or (ha : PE X a (TM X W ma)) (hb : PE X (.BoolOp .Or (b :: rest) pos) (TM X W mb)) : PE X (.BoolOp .Or (a :: b :: rest) pos) (TM X W (mOr ma mb)) := by
  refine ⟨fun ps s σc H Qc J h => ?_⟩
  obtain ⟨ρ, M, σ, Q, Xp, r, sl, h, k, kx⟩ := h
  have h1 : TM X W ma σc H fun v H1 => ∃ c, TruV X.K v H1 c ∧ if c = true then Qc v H1 else TM X W mb σc H1 Qc := ⟨ρ, M, σ, _, Xp, r, sl, h, fun ρ1 M1 H1 d v e1 r1 d1 fr h1 => by
    obtain ⟨c, hc, q⟩ := truth_ok r1 d1.1 h1
    refine ⟨c, hc, ?_⟩
    cases c with
    | true => rw [if_pos rfl] at q ⊢; exact k ρ1 M1 H1 d v e1 r1 d1 fr q
    | false => rw [if_neg Bool.false_ne_true] at q ⊢; exact ⟨ρ1, M1, σ, Q, Xp, r1, sl.mono r e1, q, k.later e1, kx.later e1⟩, kx⟩
  refine BoolOp_or (thn (ha.run ps s σc H _ J h1) fun u s1 ⟨v, H1, J1, r1, c, hc, q⟩ => ?_)
  refine thn (tru_ok ps s1 σc H1 v u (fun c' H2 => c' = c ∧ H2 = H1) J1 r1 ⟨c, hc, rfl, rfl⟩) fun c' s2 ⟨H2, J2, e1, e2⟩ => ?_
  subst e1 e2
  cases c' with
  | true => rw [if_pos rfl] at q ⊢; exact ⟨v, H2, J2, r1, q⟩
  | false => rw [if_neg Bool.false_ne_true] at q ⊢; exact hb.run ps s2 σc H2 Qc J2 q
theorem truth_ex {d : D} {M : Mem} {Q : Bool → Prop} (t : truth d M Q) : ∃ b, Q b ∧ ∀ P : Bool → Prop, truth d M P → P b := by
  have nosq : ∀ {d : D} {M : Mem} {xs : List D}, sqOf M d = some xs → (∀ b, d ≠ .bl b) ∧ d ≠ .non ∧ (∀ i, d ≠ .int i) ∧ ∀ x, d ≠ .str x := by
    intro d M xs e
    refine ⟨fun b z => ?_, fun z => ?_, fun i z => ?_, fun x z => ?_⟩ <;> subst z <;> cases e
  rcases t with ⟨b, rfl, q⟩ | ⟨rfl, q⟩ | ⟨i, rfl, q⟩ | ⟨xs, e, q⟩ | ⟨x, rfl, z, q⟩
  · refine ⟨_, q, ?_⟩
    rintro P (⟨c, e, p⟩ | ⟨e, p⟩ | ⟨j, e, p⟩ | ⟨ys, e, p⟩ | ⟨y, e, _, p⟩)
    · cases e; exact p
    · cases e
    · cases e
    · exact absurd rfl ((nosq e).1 _)
    · cases e
  · refine ⟨_, q, ?_⟩
    rintro P (⟨c, e, p⟩ | ⟨e, p⟩ | ⟨j, e, p⟩ | ⟨ys, e, p⟩ | ⟨y, e, _, p⟩)
    · cases e
    · exact p
    · cases e
    · exact absurd rfl (nosq e).2.1
    · cases e
  · refine ⟨_, q, ?_⟩
    rintro P (⟨c, e, p⟩ | ⟨e, p⟩ | ⟨j, e, p⟩ | ⟨ys, e, p⟩ | ⟨y, e, _, p⟩)
    · cases e
    · cases e
    · cases e; exact p
    · exact absurd rfl ((nosq e).2.2.1 _)
    · cases e
  · refine ⟨_, q, ?_⟩
    rintro P (⟨c, e', p⟩ | ⟨e', p⟩ | ⟨j, e', p⟩ | ⟨ys, e', p⟩ | ⟨y, e', _, p⟩)
    · exact absurd e' ((nosq e).1 _)
    · exact absurd e' (nosq e).2.1
    · exact absurd e' ((nosq e).2.2.1 _)
    · rw [e] at e'; cases e'; exact p
    · exact absurd e' ((nosq e).2.2.2 _)
  · refine ⟨_, q, ?_⟩
    rintro P (⟨c, e, p⟩ | ⟨e, p⟩ | ⟨j, e, p⟩ | ⟨ys, e, p⟩ | ⟨y, e, _, p⟩)
    · cases e
    · cases e
    · cases e
    · exact absurd rfl ((nosq e).2.2.2 _)
    · cases e; exact p
theorem _root_.L2.PW.sub {X : Cx} {e : Expr} {t t' : TT} (h : PW X e t) (i : ∀ σ H Q, t' σ H Q → t σ H Q) : PW X e t' := ⟨fun wh a b c d e J q => h.run wh a b c d e J (i _ _ _ q)⟩
theorem truth_self {d : D} {M : Mem} {P : Bool → Prop} (t : truth d M P) : truth d M fun b => truth d M (· = b) := by
  rcases t with ⟨c, e, q⟩ | ⟨e, q⟩ | ⟨i, e, q⟩ | ⟨xs, e, q⟩ | ⟨x, e, z, q⟩
  · exact .inl ⟨c, e, .inl ⟨c, e, rfl⟩⟩
  · exact .inr (.inl ⟨e, .inr (.inl ⟨e, rfl⟩)⟩)
  · exact .inr (.inr (.inl ⟨i, e, .inr (.inr (.inl ⟨i, e, rfl⟩))⟩))
  · exact .inr (.inr (.inr (.inl ⟨xs, e, .inr (.inr (.inr (.inl ⟨xs, e, rfl⟩)))⟩)))
  · exact .inr (.inr (.inr (.inr ⟨x, e, z, .inr (.inr (.inr (.inr ⟨x, e, z, rfl⟩)))⟩)))
theorem truth_map {d : D} {M : Mem} {P Q : Bool → Prop} (t : truth d M P) (h : ∀ b, P b → (∀ R : Bool → Prop, truth d M R → R b) → Q b) : truth d M Q := by
  obtain ⟨b, q, u⟩ := truth_ex t
  exact truth_mono (fun c e => by obtain rfl : c = b := e; exact h c q u) (u (fun b => truth d M (· = b)) (truth_self t))
theorem sw_and (ha : PT X a (TMT X W ma)) (hb : PW X (.BoolOp .And (b :: rest) pos) (TMT X W mb)) : PW X (.BoolOp .And (a :: b :: rest) pos) (TMT X W (mAnd ma mb)) := by
  refine (pw_and ha hb).sub fun σc H Qc h => ?_
  obtain ⟨ρ, M, σ, Q, Xp, r, s, h, k, kx⟩ := h
  refine ⟨ρ, M, σ, _, Xp, r, s, h, fun ρ1 M1 H1 d v e1 r1 d1 h1 => truth_map h1 fun c q u => ?_, kx⟩
  cases c with
  | true => rw [if_pos rfl] at q ⊢; exact ⟨ρ1, M1, σ, Q, Xp, r1, s.mono r e1, q, k.later e1, kx.later e1⟩
  | false => rw [if_neg Bool.false_ne_true] at q ⊢; exact u _ (k ρ1 M1 H1 _ _ e1 r1 d1 q)
theorem sw_or (ha : PT X a (TMT X W ma)) (hb : PW X (.BoolOp .Or (b :: rest) pos) (TMT X W mb)) : PW X (.BoolOp .Or (a :: b :: rest) pos) (TMT X W (mOr ma mb)) := by
  refine (pw_or ha hb).sub fun σc H Qc h => ?_
  obtain ⟨ρ, M, σ, Q, Xp, r, s, h, k, kx⟩ := h
  refine ⟨ρ, M, σ, _, Xp, r, s, h, fun ρ1 M1 H1 d v e1 r1 d1 h1 => truth_map h1 fun c q u => ?_, kx⟩
  cases c with
  | true => rw [if_pos rfl] at q ⊢; exact u _ (k ρ1 M1 H1 _ _ e1 r1 d1 q)
  | false => rw [if_neg Bool.false_ne_true] at q ⊢; exact ⟨ρ1, M1, σ, Q, Xp, r1, s.mono r e1, q, k.later e1, kx.later e1⟩

/-! ### a if t else b -/
theorem se_ite (hc : PT X c (TMT X W mc)) (ha : PE X a (TM X W ma)) (hb : PE X b (TM X W mb)) : PE X (.IfExp c a b pos) (TM X W (mIte mc ma mb)) := by
  refine (pe_ifExp hc ha hb).sub fun σc H Qc h => ?_
  obtain ⟨ρ, M, σ, Q, Xp, r, s, h, k, kx⟩ := h
  refine ⟨ρ, M, σ, _, Xp, r, s, h, fun ρ1 M1 H1 d v e1 r1 d1 h1 => truth_mono (fun t q => ?_) h1, kx⟩
  cases t with
  | true => rw [if_pos rfl] at q ⊢; exact ⟨ρ1, M1, σ, Q, Xp, r1, s.mono r e1, q, k.later e1, kx.later e1⟩
  | false => rw [if_neg Bool.false_ne_true] at q ⊢; exact ⟨ρ1, M1, σ, Q, Xp, r1, s.mono r e1, q, k.later e1, kx.later e1⟩
theorem st_ite (hc : PT X c (TMT X W mc)) (ha : PT X a (TMT X W ma)) (hb : PT X b (TMT X W mb)) : PT X (.IfExp c a b pos) (TMT X W (mIte mc ma mb)) := by
  refine ⟨fun ps s σc H Qc J h => ?_⟩
  obtain ⟨ρ, M, σ, Q, Xp, r, sl, h, k, kx⟩ := h
  have h1 : TMT X W mc σc H fun t H1 => if t = true then TMT X W ma σc H1 Qc else TMT X W mb σc H1 Qc := by
    refine ⟨ρ, M, σ, _, Xp, r, sl, h, fun ρ1 M1 H1 d v e1 r1 d1 h1 => truth_mono (fun t q => ?_) h1, kx⟩
    cases t with
    | true => rw [if_pos rfl] at q ⊢; exact ⟨ρ1, M1, σ, Q, Xp, r1, sl.mono r e1, q, k.later e1, kx.later e1⟩
    | false => rw [if_neg Bool.false_ne_true] at q ⊢; exact ⟨ρ1, M1, σ, Q, Xp, r1, sl.mono r e1, q, k.later e1, kx.later e1⟩
  show wpAny _ _ (do if ← isTrue c X.env (eval c X.env) then isTrue a X.env (eval a X.env) else isTrue b X.env (eval b X.env)) _ _ s
  refine wpAny_bind (thn (hc.run ps s σc H _ J h1) fun t s1 ⟨H1, J1, q⟩ => ?_)
  cases t with
  | true => rw [if_pos rfl] at q; exact ha.run ps s1 σc H1 Qc J1 q
  | false => rw [if_neg Bool.false_ne_true] at q; exact hb.run ps s1 σc H1 Qc J1 q

/-! ### comparisons -/
abbrev WC := D → WE
/-- a chain's links: as a value, as a test -/
def PCh (X : Cx) (W : WX) (ops : List CmpOp) (es : List Expr) (m : WC) : Prop :=
  (∀ (pos : Pos) (ps : List (Addr × Obj)) (s : Shared) (σc : L2.St) (H : Hp) (Qc : VK) (u : Value) (x : V) (ρ : Rg) (M : Mem) (d : D) (σ : Sl) (Q : Kd) (Xp : XP),
    Inv X ps σc H s → RelV x u → Rel X.K ρ M H → RD ρ X.K H d x → RS X.K ρ H σ σc → m d σ M Xp Q → Kt X.K ρ H Q Qc → (KX X.mg X.K ρ H Xp fun c dd H' => W c dd σc H') →
    wpAny (model X.prog X.w) X.A (compareChain pos u ops (evalEach es X.env)) (EP X ps σc Qc) X.xe s) ∧
  (∀ (pos : Pos) (ps : List (Addr × Obj)) (s : Shared) (σc : L2.St) (H : Hp) (Qc : Bool → Hp → Prop) (u : Value) (x : V) (ρ : Rg) (M : Mem) (d : D) (σ : Sl) (Q : Kd) (Xp : XP),
    Inv X ps σc H s → RelV x u → Rel X.K ρ M H → RD ρ X.K H d x → RS X.K ρ H σ σc → m d σ M Xp Q → Kb X.K ρ H Q Qc → (KX X.mg X.K ρ H Xp fun c dd H' => W c dd σc H') →
    wpAny (model X.prog X.w) X.A (testChain pos u ops (evalEach es X.env)) (TP X ps σc Qc) X.xe s)
abbrev mOne (o : CO) (me : WE) : WC := fun x σ M Xp Q => me σ M Xp fun y M1 => opC o x (shr y) M1 fun b => Q (.bl b) M1
abbrev mLink (o : CO) (me : WE) (mr : WC) : WC := fun x σ M Xp Q => me σ M Xp fun y M1 => opC o x (shr y) M1 fun b => if b = true then mr (shr y) σ M1 Xp Q else Q (.bl false) M1
variable {e : Expr} {me : WE} {mr : WC} {ops : List CmpOp} {es : List Expr}
theorem pch_one (hu : X.A.units + 66 < cLine) (o : CO) (he : PE X e (TM X W me)) : PCh X W [coOp o] [e] (mOne o me) := by
  obtain ⟨r2, h2, hs⟩ := co_ok X hu o
  constructor
  · intro pos ps s σc H Qc u x ρ M d σ Q Xp J ru r hd sl h k kx
    have h1 : TM X W me σc H fun y H1 => r2 x y H1 Qc := ⟨ρ, M, σ, _, Xp, r, sl, h, fun ρ1 M1 H1 d1 v1 e1 r1 rd1 _ q => hs ρ1 M1 H1 _ _ _ _ _ _ r1 (r.mono e1 hd) rd1.1 q fun b q => (k.later e1).bl r1 q, kx⟩
    exact chain_last (thn (he.run ps s σc H _ J h1) fun u2 s2 ⟨y, H2, J2, ry, q2⟩ => h2 ps s2 σc H2 x y u u2 Qc J2 ru ry q2)
  · intro pos ps s σc H Qc u x ρ M d σ Q Xp J ru r hd sl h k kx
    have h1 : TM X W me σc H fun y H1 => r2 x y H1 fun z H2 => ∃ b, z = .bl b ∧ Qc b H2 := ⟨ρ, M, σ, _, Xp, r, sl, h, fun ρ1 M1 H1 d1 v1 e1 r1 rd1 _ q => hs ρ1 M1 H1 _ _ _ _ _ _ r1 (r.mono e1 hd) rd1.1 q fun b q =>
      ⟨b, rfl, truth_bl.mp (k ρ1 M1 H1 _ _ e1 r1 bl_RR q)⟩, kx⟩
    refine test_last (thn (he.run ps s σc H _ J h1) fun u2 s2 ⟨y, H2, J2, ry, q2⟩ => thn (h2 ps s2 σc H2 x y u u2 _ J2 ru ry q2) fun u3 s3 ⟨z, H3, J3, rz, b, ez, q3⟩ => ?_)
    subst ez
    cases rz
    exact wpAny_truthy_bool ⟨H3, J3, q3⟩
theorem pch_cons (hu : X.A.units + 66 < cLine) (o : CO) (he : PE X e (TM X W me)) {o' : CmpOp} {e' : Expr} (hr : PCh X W (o' :: ops) (e' :: es) mr) : PCh X W (coOp o :: o' :: ops) (e :: e' :: es) (mLink o me mr) := by
  obtain ⟨r2, h2, hs⟩ := co_ok X hu o
  constructor
  · intro pos ps s σc H Qc u x ρ M d σ Q Xp J ru r hd sl h k kx
    have h1 : TM X W me σc H fun y H1 => ∃ ρ1 M1 d1, Ext ρ H ρ1 H1 ∧ Rel X.K ρ1 M1 H1 ∧ RD ρ1 X.K H1 (shr d1) y ∧ r2 x y H1 fun z H2 => H2 = H1 ∧ ∃ b, z = .bl b ∧ if b = true then mr (shr d1) σ M1 Xp Q else Q (.bl false) M1 :=
      ⟨ρ, M, σ, _, Xp, r, sl, h, fun ρ1 M1 H1 d1 v1 e1 r1 rd1 _ q => ⟨ρ1, M1, d1, e1, r1, rd1.1, hs ρ1 M1 H1 _ _ _ _ _ _ r1 (r.mono e1 hd) rd1.1 q fun b q => ⟨rfl, b, rfl, q⟩⟩, kx⟩
    refine chain_link (thn (he.run ps s σc H _ J h1) fun u2 s2 ⟨y, H2, J2, ry, ρ1, M1, d1, e1, r1, rd1, q2⟩ => thn (h2 ps s2 σc H2 x y u u2 _ J2 ru ry q2) fun u3 s3 ⟨z, H3, J3, rz, eH, b, ez, q3⟩ => ?_)
    subst ez eH
    cases rz
    refine wpAny_truthy_bool ?_
    cases b with
    | true => rw [if_pos rfl] at q3 ⊢; exact hr.1 pos ps s3 σc _ Qc u2 y ρ1 M1 (shr d1) σ Q Xp J3 ry r1 rd1 (sl.mono r e1) q3 (k.later e1) (kx.later e1)
    | false => rw [if_neg Bool.false_ne_true] at q3 ⊢; exact ⟨.bl false, _, J3, rfl, (k.later e1).bl r1 q3⟩
  · intro pos ps s σc H Qc u x ρ M d σ Q Xp J ru r hd sl h k kx
    have h1 : TM X W me σc H fun y H1 => ∃ ρ1 M1 d1, Ext ρ H ρ1 H1 ∧ Rel X.K ρ1 M1 H1 ∧ RD ρ1 X.K H1 (shr d1) y ∧ r2 x y H1 fun z H2 => H2 = H1 ∧ ∃ b, z = .bl b ∧ if b = true then mr (shr d1) σ M1 Xp Q else Q (.bl false) M1 :=
      ⟨ρ, M, σ, _, Xp, r, sl, h, fun ρ1 M1 H1 d1 v1 e1 r1 rd1 _ q => ⟨ρ1, M1, d1, e1, r1, rd1.1, hs ρ1 M1 H1 _ _ _ _ _ _ r1 (r.mono e1 hd) rd1.1 q fun b q => ⟨rfl, b, rfl, q⟩⟩, kx⟩
    refine test_link (thn (he.run ps s σc H _ J h1) fun u2 s2 ⟨y, H2, J2, ry, ρ1, M1, d1, e1, r1, rd1, q2⟩ => thn (h2 ps s2 σc H2 x y u u2 _ J2 ru ry q2) fun u3 s3 ⟨z, H3, J3, rz, eH, b, ez, q3⟩ => ?_)
    subst ez eH
    cases rz
    refine wpAny_truthy_bool ?_
    cases b with
    | true => rw [if_pos rfl] at q3 ⊢; exact hr.2 pos ps s3 σc _ Qc u2 y ρ1 M1 (shr d1) σ Q Xp J3 ry r1 rd1 (sl.mono r e1) q3 (k.later e1) (kx.later e1)
    | false => rw [if_neg Bool.false_ne_true] at q3 ⊢; exact ⟨_, J3, truth_bl.mp (k ρ1 M1 _ _ _ e1 r1 bl_RR q3)⟩
abbrev mCmp (ma : WE) (mr : WC) : WE := fun σ M Xp Q => ma σ M Xp fun x M1 => mr (shr x) σ M1 Xp Q
theorem se_cmp (hm : lastMarks ops es = false) (ha : PE X a (TM X W ma)) (hr : PCh X W ops es mr) : PE X (.Compare a ops es pos) (TM X W (mCmp ma mr)) := by
  refine ⟨fun ps s σc H Qc J h => ?_⟩
  obtain ⟨ρ, M, σ, Q, Xp, r, sl, h, k, kx⟩ := h
  show wpAny _ _ (do compareChain pos (← eval a X.env) ops (markedEach ops es (evalEach es X.env))) _ _ s
  rw [markedEach_of_false _ _ _ hm]
  have h1 : TM X W ma σc H fun y H1 => ∃ ρ1 M1 d1, Ext ρ H ρ1 H1 ∧ Rel X.K ρ1 M1 H1 ∧ RD ρ1 X.K H1 (shr d1) y ∧ mr (shr d1) σ M1 Xp Q := ⟨ρ, M, σ, _, Xp, r, sl, h, fun ρ1 M1 H1 d1 v1 e1 r1 rd1 _ q => ⟨ρ1, M1, d1, e1, r1, rd1.1, q⟩, kx⟩
  refine wpAny_bind (thn (ha.run ps s σc H _ J h1) fun u s1 ⟨y, H1, J1, ry, ρ1, M1, d1, e1, r1, rd1, q⟩ => ?_)
  exact hr.1 pos ps s1 σc H1 Qc u y ρ1 M1 _ σ Q Xp J1 ry r1 rd1 (sl.mono r e1) q (k.later e1) (kx.later e1)
theorem st_cmp (hm : lastMarks ops es = false) (ha : PE X a (TM X W ma)) (hr : PCh X W ops es mr) : PT X (.Compare a ops es pos) (TMT X W (mCmp ma mr)) := by
  refine ⟨fun ps s σc H Qc J h => ?_⟩
  obtain ⟨ρ, M, σ, Q, Xp, r, sl, h, k, kx⟩ := h
  show wpAny _ _ (do testChain pos (← eval a X.env) ops (markedEach ops es (evalEach es X.env))) _ _ s
  rw [markedEach_of_false _ _ _ hm]
  have h1 : TM X W ma σc H fun y H1 => ∃ ρ1 M1 d1, Ext ρ H ρ1 H1 ∧ Rel X.K ρ1 M1 H1 ∧ RD ρ1 X.K H1 (shr d1) y ∧ mr (shr d1) σ M1 Xp Q := ⟨ρ, M, σ, _, Xp, r, sl, h, fun ρ1 M1 H1 d1 v1 e1 r1 rd1 _ q => ⟨ρ1, M1, d1, e1, r1, rd1.1, q⟩, kx⟩
  refine wpAny_bind (thn (ha.run ps s σc H _ J h1) fun u s1 ⟨y, H1, J1, ry, ρ1, M1, d1, e1, r1, rd1, q⟩ => ?_)
  exact hr.2 pos ps s1 σc H1 Qc u y ρ1 M1 _ σ Q Xp J1 ry r1 rd1 (sl.mono r e1) q (k.later e1) (kx.later e1)
end
end Lay

set_option Elab.async false
set_option maxRecDepth 100000
set_option linter.all false
/-! Lay, part F: subscripts, displays, built-ins, methods. -/
namespace Lay
open PySem L2 PyProof.Rows

/-! ### subscripts -/
theorem ix_dict {X : Cx} (hu : X.A.units + 1 < cLine) : IxR X (fun x y H Q => ∃ a v, x = .ref a ∧ DGet H a y (some v) ∧ Q v H) := by
  intro value slice ps s st Hh x y v u Q J rx ry hq hsub
  obtain ⟨a, z, ex, g, q⟩ := hq
  subst ex
  cases rx
  exact tail_any (dict_typeIs J g) PySem.F.slot_dict_getitem.lookup (d_getItem hu J g ry fun w' s3 J3 rw' => ⟨z, Hh, J3, rw', q⟩) hsub
theorem atI_rel {ρ : Rg} {K : PySem.W.Frag} {H : Hp} {xs : List D} {vs : List V} {k : Int} {d : D} (h : RDs ρ K H xs vs) (e : atI xs k = some d) : ∃ v, atI vs k = some v ∧ RD ρ K H d v := by
  unfold atI at e ⊢
  rw [← h.len]
  cases hj : ixN xs.length k with
  | none => rw [hj] at e; cases e
  | some j => rw [hj] at e; exact h.get e
theorem ixOk (X : Cx) (hu : X.A.units + 66 < cLine) : ∃ r : R2, IxR X r ∧ ∀ (ρ : Rg) (M : Mem) (H : Hp) (x y : V) (d e : D) (Q : D → Prop) (Qc : VK), Rel X.K ρ M H → RD ρ X.K H d x → RD ρ X.K H e y → opIx d e M Q →
    (∀ z v, RD ρ X.K H z v → Q z → Qc v H) → r x y H Qc := by
  refine ⟨_, IxR.or ix_seq (ix_dict (by omega)), ?_⟩
  intro ρ M H x y d e Q Qc r hx hy h k
  rcases h with ⟨xs, i, z, e1, rfl, e2, q⟩ | ⟨t, i, c, rfl, rfl, z, e2, q⟩ | ⟨ks, kk, z, e1, e2, e3, q⟩
  · obtain ⟨a, vs, rfl, e3, e4⟩ := sqOf_read r hx e1
    obtain ⟨v, e5, e6⟩ := atI_rel e4 e2
    rcases e3 with e3 | e3
    · exact .inl (.inl ⟨a, vs, i, v, rfl, hy.toInt, e3, e5, k _ _ e6 q⟩)
    · exact .inl (.inr (.inl ⟨a, vs, i, v, rfl, hy.toInt, e3, e5, k _ _ e6 q⟩))
  · exact .inl (.inr (.inr ⟨t, i, c, hx.toStr, hy.toInt, z, e2, k _ _ (.str _) q⟩))
  · obtain ⟨a, kx, rfl, e4, e5⟩ := dcOf_read r hx e1
    obtain ⟨v, e6, e7⟩ := e5.look.1 z e3
    refine .inr ⟨a, v, rfl, ?_, k _ _ e7 q⟩
    rw [hy.key e2, ← e6]; exact DGet.k e4
section
variable {X : Cx} {W : WX} {a b c i e : Expr} {ma mb mc me : WE} {pos p2 : Pos}
theorem se_ix (hu : X.A.units + 66 < cLine) (ha : PE X a (TM X W ma)) (hb : PE X b (TM X W mb)) (hs : PlainIx b) : PE X (.Subscript a b pos) (TM X W (mIx ma mb)) := by
  obtain ⟨r2, h2, hs2⟩ := ixOk X hu
  refine (pe_ix h2 ha hb hs).sub fun σc H Qc h => ?_
  obtain ⟨ρ, M, σ, Q, Xp, r, s, h, k, kx⟩ := h
  refine ⟨ρ, M, σ, _, Xp, r, s, h, fun ρ1 M1 H1 d v e1 r1 d1 _ h1 => ⟨ρ1, M1, σ, _, Xp, r1, s.mono r e1, h1, fun ρ2 M2 H2 d2 v2 e2 r2 d2' _ h2 => ?_, kx.later e1⟩, kx⟩
  exact hs2 ρ2 M2 H2 _ _ _ _ _ Qc r2 (d1.mono r1 e2) d2'.1 h2 fun z v hz q => (k.later (e1.trans e2)).old r2 hz q

/-- an optional part of a slice -/
abbrev WO := Sl → Mem → XP → (Option Int → Mem → Prop) → Prop
def TMO (X : Cx) (W : WX) (m : WO) : TO := fun σc H Qc => ∃ ρ M σ Q Xp, Rel X.K ρ M H ∧ RS X.K ρ H σ σc ∧ m σ M Xp Q ∧
  (∀ (ρ' : Rg) (M' : Mem) (H' : Hp) (o : Option Int), Ext ρ H ρ' H' → Rel X.K ρ' M' H' → Q o M' → Qc o H') ∧ KX X.mg X.K ρ H Xp fun c d H' => W c d σc H'
theorem _root_.L2.PO.sub {X : Cx} {e : Option Expr} {t t' : TO} (h : PO X e t) (j : ∀ σ H Q, t' σ H Q → t σ H Q) : PO X e t' := ⟨fun a b c d z J q => h.run a b c d z J (j _ _ _ q)⟩
theorem so_none : PO X none (TMO X W fun _ M _ Q => Q none M) := by
  refine po_none.sub fun σc H Qc h => ?_
  obtain ⟨ρ, M, σ, Q, Xp, r, s, h, k, kx⟩ := h
  exact k ρ M H none (Ext.refl _ _) r h
theorem so_some (he : PE X e (TM X W me)) : PO X (some e) (TMO X W fun σ M Xp Q => me σ M Xp fun d M1 => ∃ i, d = .int i ∧ Q (some i) M1) := by
  refine (po_some he).sub fun σc H Qc h => ?_
  obtain ⟨ρ, M, σ, Q, Xp, r, s, h, k, kx⟩ := h
  refine ⟨ρ, M, σ, _, Xp, r, s, h, fun ρ1 M1 H1 d v e1 r1 d1 _ h1 => ?_, kx⟩
  obtain ⟨i, rfl, q⟩ := h1
  exact ⟨i, d1.1.toInt, k ρ1 M1 H1 _ e1 r1 q⟩
abbrev mSl (ma : WE) (ml mh : WO) : WE := fun σ M Xp Q => ma σ M Xp fun x M1 => ml σ M1 Xp fun l M2 => mh σ M2 Xp fun h M3 => opSl (shr x) l h M3 fun d => Q d M3
theorem se_sl {lo hi : Option Expr} {ml mh : WO} (ha : PE X a (TM X W ma)) (hl : PO X lo (TMO X W ml)) (hh : PO X hi (TMO X W mh)) : PE X (.Subscript a (.Slice lo hi none p2) pos) (TM X W (mSl ma ml mh)) := by
  refine (pe_slice (SlR.or sl_tupA sl_list) ha hl hh).sub fun σc H Qc h => ?_
  obtain ⟨ρ, M, σ, Q, Xp, r, s, h, k, kx⟩ := h
  refine ⟨ρ, M, σ, _, Xp, r, s, h, fun ρ1 M1 H1 d v e1 r1 d1 _ h1 => ⟨ρ1, M1, σ, _, Xp, r1, s.mono r e1, h1, fun ρ2 M2 H2 o2 e2 r2 h2 => ⟨ρ2, M2, σ, _, Xp, r2, s.mono r (e1.trans e2), h2, fun ρ3 M3 H3 o3 e3 r3 h3 => ?_,
    kx.later (e1.trans e2)⟩, kx.later e1⟩, kx⟩
  have hd := r2.mono e3 (r1.mono e2 d1.1)
  have kk := k.later ((e1.trans e2).trans e3)
  rcases h3 with ⟨xs, ex, q⟩ | ⟨xs, ex, q⟩ | ⟨xs, ex, q⟩
  · rw [ex] at hd
    obtain ⟨b, vs, rfl, h4, h5⟩ := hd.toTup
    refine .inl ⟨b, vs, rfl, h4, fun w => ?_, fun _ p hp => kk.tup r3 (h5.cut o2 o3) q hp⟩
    refine kk.old r3 ?_ q
    have hc : cutD xs o2 o3 = xs := by
      unfold cutD
      rw [h5.len, w.1, w.2, List.drop_zero, Nat.sub_zero, ← h5.len]
      exact List.take_length
    rw [hc]
    exact .tup h4 h5
  · obtain ⟨b, vs, rfl, h4, h5⟩ := lsOf_read r3 hd ex
    exact .inr ⟨b, vs, rfl, SqL.of h4, fun p hp => kk.lst r3 (h5.cut o2 o3) q hp⟩
  · rw [ex] at hd
    obtain ⟨b, vs, rfl, h4, h5⟩ := hd.toFz
    exact .inr ⟨b, vs, rfl, h4, fun p hp => kk.lst r3 (h5.cut o2 o3) q hp⟩

/-! ### argument lists, displays -/
theorem sa_nil : PA X [] (TML X W fun _ M _ Q => Q [] M) := by
  refine pa_nil.sub fun σc H Qc h => ?_
  obtain ⟨ρ, M, σ, Q, Xp, r, s, h, k, kx⟩ := h
  exact k ρ M H [] [] (Ext.refl _ _) r .nil h
abbrev mCons (me : WE) (ml : WL) : WL := fun σ M Xp Q => me σ M Xp fun d M1 => ml σ M1 Xp fun ds M2 => Q (shr d :: ds) M2
theorem sa_cons {es : List Expr} {ml : WL} (he : PE X e (TM X W me)) (hr : PA X es (TML X W ml)) (hs : starEach (e :: es) X.env = (false, eval e X.env) :: starEach es X.env) : PA X (e :: es) (TML X W (mCons me ml)) := by
  refine (pa_cons he hr hs).sub fun σc H Qc h => ?_
  obtain ⟨ρ, M, σ, Q, Xp, r, s, h, k, kx⟩ := h
  exact ⟨ρ, M, σ, _, Xp, r, s, h, fun ρ1 M1 H1 d v e1 r1 d1 _ h1 => ⟨ρ1, M1, σ, _, Xp, r1, s.mono r e1, h1, fun ρ2 M2 H2 ds vs e2 r2 hds h2 => k ρ2 M2 H2 _ _ (e1.trans e2) r2 (.cons (r1.mono e2 d1.1) hds) h2, kx.later e1⟩, kx⟩
abbrev mTup (ml : WL) : WE := fun σ M Xp Q => ml σ M Xp fun ds M1 => ds.length ≤ sizeLine ∧ Q (.tup ds) M1
abbrev mLst (ml : WL) : WE := fun σ M Xp Q => ml σ M Xp fun ds M1 => ds.length ≤ sizeLine ∧ Q (.fr (.lst ds)) M1
theorem se_tup {es : List Expr} {ml : WL} {x1 : Nat} (h : PA X es (TML X W ml)) : PE X (.Tuple es x1 pos) (TM X W (mTup ml)) := by
  refine (pe_tup h).sub fun σc H Qc h => ?_
  obtain ⟨ρ, M, σ, Q, Xp, r, s, h, k, kx⟩ := h
  exact ⟨ρ, M, σ, _, Xp, r, s, h, fun ρ1 M1 H1 ds vs e1 r1 hd h1 => ⟨by rw [← hd.len]; exact h1.1, fun p hp => (k.later e1).tup r1 hd h1.2 hp⟩, kx⟩
theorem se_lst {es : List Expr} {ml : WL} (h : PA X es (TML X W ml)) : PE X (.List es pos) (TM X W (mLst ml)) := by
  refine (pe_lst h).sub fun σc H Qc h => ?_
  obtain ⟨ρ, M, σ, Q, Xp, r, s, h, k, kx⟩ := h
  exact ⟨ρ, M, σ, _, Xp, r, s, h, fun ρ1 M1 H1 ds vs e1 r1 hd h1 => ⟨by rw [← hd.len]; exact h1.1, fun p hp => (k.later e1).lst r1 hd h1.2 hp⟩, kx⟩
/-- {}: a new dict -/
theorem se_dct0 : PE X (.Dict [] [] pos) (TM X W fun _ M _ Q => Q (.fr (.dct [])) M) := by
  refine pe_dnewK.sub fun σc H Qc h => ?_
  obtain ⟨ρ, M, σ, Q, Xp, r, s, h, k, kx⟩ := h
  intro p hp
  exact k ρ M _ (.fr (.dct [])) _ (Ext.alloc hp) (r.alloc hp) ⟨.dct upd_same (r.free hp) .nil, fun e q => ⟨p, _, .dic [], rfl, upd_same, by cases q; rfl, by rw [del_upd hp]; exact r, by rw [del_upd hp]; exact ⟨[], rfl, .nil⟩⟩⟩ (fun e _ => ⟨p, rfl, hp⟩) h
abbrev WP := Sl → Mem → XP → (List (Key × D) → Mem → Prop) → Prop
/-- a display's pairs -/
def PPd (X : Cx) (W : WX) (pos : Pos) (keys : List (Option Expr)) (values : List Expr) (m : WP) : Prop :=
  ∃ trs, PPs X pos keys values trs ∧ keys.all (·.isSome) = true ∧ keys.length = values.length ∧
    ∀ (σc : L2.St) (H : Hp) (Qc : List (V × V) → Hp → Prop) (ρ : Rg) (M : Mem) (σ : Sl) (Q : List (Key × D) → Mem → Prop) (Xp : XP), Rel X.K ρ M H → RS X.K ρ H σ σc → m σ M Xp Q →
      (KX X.mg X.K ρ H Xp fun c d H' => W c d σc H') →
      (∀ (ρ' : Rg) (M' : Mem) (H' : Hp) (ks : List (Key × D)) (kx : List (Key × V)), Ext ρ H ρ' H' → Rel X.K ρ' M' H' → RDk ρ' X.K H' ks kx → Q ks M' → Qc (kx.map fun kv => (kV kv.1, kv.2)) H') → tPairs trs σc H Qc
theorem pp_nil : PPd X W pos [] [] fun _ M _ Q => Q [] M :=
  ⟨[], pps_nil, rfl, rfl, fun σc H Qc ρ M σ Q Xp r s h _ k => k ρ M H [] [] (Ext.refl _ _) r .nil h⟩
abbrev mPair (mk me : WE) (mp : WP) : WP := fun σ M Xp Q => mk σ M Xp fun x M1 => me σ M1 Xp fun y M2 => mp σ M2 Xp fun ks M3 => ∃ kk, x.toKey = some kk ∧ Q ((kk, shr y) :: ks) M3
theorem pp_cons {mk : WE} {mp : WP} {ks : List (Option Expr)} {vs : List Expr} (hk : PE X a (TM X W mk)) (he : PE X e (TM X W me)) (hr : PPd X W pos ks vs mp) : PPd X W pos (some a :: ks) (e :: vs) (mPair mk me mp) := by
  obtain ⟨trs, h1, h2, h3, h4⟩ := hr
  refine ⟨_, pps_cons hk he h1, by simp [h2], by simp [h3], fun σc H Qc ρ M σ Q Xp r s h kx k => ?_⟩
  refine ⟨ρ, M, σ, _, Xp, r, s, h, fun ρ1 M1 H1 d v e1 r1 d1 _ q1 => ⟨ρ1, M1, σ, _, Xp, r1, s.mono r e1, q1, fun ρ2 M2 H2 d2 v2 e2 r2 d2' _ q2 => ?_, kx.later e1⟩, kx⟩
  refine h4 σc H2 _ ρ2 M2 σ _ Xp r2 (s.mono r (e1.trans e2)) q2 (kx.later (e1.trans e2)) fun ρ3 M3 H3 js jx e3 r3 hj q3 => ?_
  obtain ⟨kk, ek, q⟩ := q3
  have hv : v = kV kk := by
    have := d1.1
    cases d with
    | fr d => cases ek
    | _ => exact this.key ek
  rw [hv]
  exact k ρ3 M3 H3 _ ((kk, v2) :: jx) ((e1.trans e2).trans e3) r3 (.cons (r2.mono e3 d2'.1) hj) q
theorem merge_rel {K : PySem.W.Frag} {ρ : Rg} {H : Hp} : ∀ {ks : List (Key × D)} {kx : List (Key × V)} {acc : List (Key × D)} {accx : List (Key × V)}, RDk ρ K H ks kx → RDk ρ K H acc accx →
    RDk ρ K H (ks.foldl (fun acc p => putK' acc p.1 p.2) acc) (mergeK accx kx)
  | [], _, _, _, h, q => by cases h; exact q
  | (j, e) :: ks, _, _, accx, h, q => by
    cases h with
    | @cons _ _ v _ vs h1 h2 =>
      show RDk ρ K H (ks.foldl _ (putK' _ j e)) (mergeK (putK accx j v) vs)
      exact merge_rel h2 (q.put h1)
abbrev mDct (mp : WP) : WE := fun σ M Xp Q => mp σ (M ++ [.dic []]) Xp fun ks M1 => ks.length ≤ 15 ∧ M1[M.length]? = some (.dic []) ∧ Q (.loc M.length) (M1.set M.length (.dic (ks.foldl (fun acc p => putK' acc p.1 p.2) [])))
theorem se_dct {keys : List (Option Expr)} {values : List Expr} {mp : WP} (h : PPd X W pos keys values mp) (h15 : keys.length ≤ 15) (h0 : keys ≠ []) : PE X (.Dict keys values pos) (TM X W (mDct mp)) := by
  obtain ⟨trs, h1, h2, h3, h4⟩ := h
  refine (pe_disp h1 h2 h3 h0 h15).sub fun σc H Qc h => ?_
  obtain ⟨ρ, M, σ, Q, Xp, r, s, h, k, kx⟩ := h
  intro p hp
  have e0 : Ext ρ H (ρ.add p) (upd H p (.dK [])) := Ext.new hp
  have r0 : Rel X.K (ρ.add p) (M ++ [.dic []]) (upd H p (.dK [])) := r.new hp ⟨[], rfl, .nil⟩
  refine h4 σc _ _ (ρ.add p) _ σ _ Xp r0 (s.mono r e0) h (kx.later e0) fun ρ1 M1 H1 ks kv e1 r1 hk q => ?_
  have hn : ρ1.l[M.length]? = some p := by
    exact pre_get e1.pre (add_at r p)
  have hp1 : H1 p = some (.dK []) := by
    obtain ⟨o, e2, vs, e3, q2⟩ := r1.cell _ _ _ q.2.1 hn
    subst e3
    cases q2
    exact e2
  refine ⟨hp1, kv, rfl, by rw [← hk.len]; exact q.1, ?_⟩
  have ew : Ext ρ1 H1 ρ1 (upd H1 p (.dK (mergeK [] kv))) := Ext.write (List.mem_of_getElem? hn)
  have kk := k.later e0
  refine kk ρ1 _ _ _ _ (e1.trans ew) (r1.write (c := .dic _) hn ⟨_, rfl, merge_rel (r1.monok ew hk) .nil⟩) (RR.of (.loc hn)) (Frs.no fun _ q => by cases q) q.2.2
end
end Lay

set_option Elab.async false
set_option maxRecDepth 100000
set_option linter.all false
/-! Lay, part So: sorted of tuples of whole numbers, of any lengths but nought. -/
namespace Lay
open PySem L2 PyProof.Rows
theorem ltL_asym : ∀ x y : List Int, ltL x y = true → ltL y x = false
  | [], [], _ => rfl
  | [], _ :: _, _ => rfl
  | _ :: _, [], h => by cases h
  | a :: as, b :: bs, h => by
    simp only [ltL] at h ⊢
    by_cases e : a = b
    · rw [if_pos e] at h
      rw [if_pos e.symm]
      exact ltL_asym as bs h
    · rw [if_neg e] at h
      rw [if_neg (fun z => e z.symm)]
      have := of_decide_eq_true h
      exact decide_eq_false (by omega)
theorem ltL_nil : ∀ z : List Int, ltL z [] = false
  | [] => rfl
  | _ :: _ => rfl
theorem ltL_tr : ∀ x y z : List Int, ltL y x = false → ltL z y = false → ltL z x = false
  | [], _, z, _, _ => ltL_nil z
  | _ :: _, [], _, h, _ => by cases h
  | _ :: _, _ :: _, [], _, h => by cases h
  | a :: as, b :: bs, c :: cs, h1, h2 => by
    simp only [ltL] at h1 h2 ⊢
    by_cases e : b = a
    · rw [if_pos e] at h1
      by_cases f : c = b
      · rw [if_pos f] at h2
        rw [if_pos (f.trans e)]
        exact ltL_tr as bs cs h1 h2
      · rw [if_neg f] at h2
        rw [if_neg (by rw [← e]; exact f), ← e]
        exact h2
    · rw [if_neg e] at h1
      have h1' := of_decide_eq_false h1
      by_cases f : c = b
      · rw [if_neg (by rw [f]; exact e), f]
        exact decide_eq_false h1'
      · rw [if_neg f] at h2
        have h2' := of_decide_eq_false h2
        rw [if_neg (by omega)]
        exact decide_eq_false (by omega)
theorem swoL {α : Type} (f : α → List Int) : SrtO.Swo fun v u => ltL (f v) (f u) := ⟨fun x y h => ltL_asym _ _ h, fun x y z h1 h2 => ltL_tr _ _ _ h1 h2⟩
section
variable {prog : Program} {w : World} {A : Around} {E : Value → Shared → Prop} {s : Shared} {Q : Bool → Shared → Prop}
theorem lexL {fin b : Bool} {xs ys : List Value} {ns ms : List Int} (i : Nat) (hx : IntsAre xs ns) (hy : IntsAre ys ms) (hf : fin = decide (ns.length < ms.length)) (h : Q (ltL ns ms) s) :
    PySem.W.KatLex prog w A b fin Q (xs.zip ys) i s := by
  induction hx generalizing ys ms i with
  | nil =>
    cases hy with
    | nil => subst hf; exact PySem.W.kat_nil h
    | cons q u hy => subst hf; exact PySem.W.kat_nil (by simpa [ltL] using h)
  | @cons p t xs ns hx ih =>
    cases hy with
    | nil => subst hf; exact PySem.W.kat_nil (by simpa [ltL] using h)
    | @cons q u ys ms hy =>
      show PySem.W.KatLex prog w A b fin Q ((Value.int p t, Value.int q u) :: xs.zip ys) i s
      refine PySem.W.kat_cons (wpAny_eqBool_int ?_)
      by_cases e : p = q
      · subst e
        rw [beq_self_eq_true]
        refine PySem.W.kat_yes ?_
        have h' : Q (ltL ns ms) s := by simpa [ltL] using h
        exact ih (i + 1) hy (by rw [hf]; simp) h'
      · rw [show (p == q) = false from beq_eq_false_iff_ne.mpr e]
        refine PySem.W.kat_no (TS.oneLt_ints _ ?_)
        have d : ltL (p :: ns) (q :: ms) = decide (p < q) := by simp only [ltL]; rw [if_neg e]
        rw [← d]
        exact h
theorem firstsL {h : Heap} : ∀ vs : List Value, (∀ v ∈ vs, ∃ ns, TS.TupInts h v ns ∧ ns ≠ []) → ∃ fs, PySem.W.KatTups h vs fs ∧ fs.length = vs.length ∧ ∀ f, f ∈ fs → ∃ n t, f = Value.int n t
  | [], _ => ⟨[], PySem.W.KatTups.nil, rfl, fun f hf => by simp at hf⟩
  | v :: vs, x => by
    obtain ⟨fs, k, hl, hi⟩ := firstsL vs fun u hu => x u (List.mem_cons_of_mem _ hu)
    obtain ⟨ns, ⟨a, xs, rfl, ⟨o, ho, hc, n, hdt⟩, i⟩, hn⟩ := x v (List.mem_cons_self ..)
    obtain ⟨y, ys, e⟩ : ∃ y ys, xs.toList = y :: ys := by
      cases q : xs.toList with
      | nil =>
        rw [q] at i
        cases i
        exact absurd rfl hn
      | cons y ys => exact ⟨y, ys, rfl⟩
    obtain ⟨m, t, hy⟩ := i.all y (by rw [e]; exact List.mem_cons_self ..)
    refine ⟨y :: fs, PySem.W.KatTups.cons ho hc hdt ?_ k, by simp [hl], ?_⟩
    · have z := congrArg (fun l : List Value => l[0]?) e
      simpa using z
    · intro f hf
      rcases List.mem_cons.mp hf with rfl | hf
      · exact ⟨m, t, hy⟩
      · exact hi f hf
theorem cmpL {vs : List Value} {k : Value → List Int} (hp : ∀ v ∈ vs, TS.TupInts s.heap v (k v)) : SrtO.Cmp prog w A s (tuples' true) (fun p => p.1 ∈ vs) (SrtO.lt2 fun v u => ltL (k v) (k u)) := by
  intro p q hm hm'
  have h1 := hp _ hm
  have h2 := hp _ hm'
  show wpAny (model prog w) A (keyLt' (tuples' true) p.1 q.1) (fun r s' => s' = s ∧ r = ltL (k p.1) (k q.1)) (fun _ _ => False) s
  generalize k p.1 = x at h1 ⊢
  generalize k q.1 = y at h2 ⊢
  obtain ⟨a, xs, e, ⟨o, ho, hc, n, hd⟩, i1⟩ := h1
  obtain ⟨a', xs', e', ⟨o', ho', hc', n', hd'⟩, i2⟩ := h2
  rw [e, e']
  refine PySem.W.kat_lt ho hd ho' hd' ?_
  refine lexL 0 i1 i2 ?_ ⟨rfl, rfl⟩
  have l1 := i1.length
  have l2 := i2.length
  rw [Array.length_toList] at l1 l2
  rw [← l1, ← l2]
theorem sortableL {a : Addr} {vs : List Value} {k : Value → List Int} (h0 : 0 < vs.length) (hp : ∀ v ∈ vs, TS.TupInts s.heap v (k v) ∧ k v ≠ []) (ha : ∀ o, s.heap.get? a = some o → o.cls ≠ .type "tuple") : SrtO.SortableO prog w A s a vs fun v u => ltL (k v) (k u) := by
  intro h' keep
  have hp' : ∀ v ∈ vs, TS.TupInts h' v (k v) ∧ k v ≠ [] := fun v hm => ⟨(hp v hm).1.keeps fun b o e c => keep b o (fun z => by subst z; exact ha o e c) e, (hp v hm).2⟩
  obtain ⟨fs, h1, h2, h3⟩ := firstsL vs fun v hm => ⟨_, hp' v hm⟩
  refine ⟨tuples' true, fun Q E hq => ?_, cmpL fun v hm => (hp' v hm).1⟩
  refine PySem.W.kat_kind (T := .type "int") h1 (by omega) (fun f hm => ?_) (by rfl) ?_
  · obtain ⟨x, t, rfl⟩ := h3 f hm
    exact PySem.W.Looks.now
  · have e : (Value.type "int" != Value.type "tuple") = true := by first | decide +kernel | rfl | decide
    rw [e]
    exact hq
theorem sortedL {l : Addr} {vs : List Value} {k : Value → List Int} {Q : Value → Shared → Prop} (hl : s.heap.IsList l vs.toArray) (hz : vs.length ≤ sizeLine) (hp : ∀ v ∈ vs, TS.TupInts s.heap v (k v) ∧ k v ≠ [])
    (h : ∀ (h' : Heap) (d : Addr) (out : List Value), SrtO.Srtd (fun v u => ltL (k v) (k u)) out → out.Perm vs → (∀ b o, s.heap.get? b = some o → h'.get? b = some o) → s.heap.objs.size ≤ d → (∃ n, h'.get? d = some (seqObj "list" out.toArray n)) → Q (.ref d) { s with heap := h' }) :
    wpAny (model prog w) A (call (.builtin "sorted") [.ref l]) Q E s := by
  refine SrtO.sorted_ord (swoL k) hl hz (fun h2 h₁ a ha kk => ?_) fun out hs hb => ?_
  · refine sortableL (s := { s with heap := h₁ }) (by omega) (fun v hm => ⟨(hp v hm).1.keeps fun b o e _ => (kk b o e).2, (hp v hm).2⟩) fun o e => ?_
    have e' : some o = some (seqObj "list" vs.toArray 0) := e.symm.trans ha
    cases e'
    intro c
    exact absurd (Value.type.inj c) (by decide)
  · exact h _ _ out hs hb.perm (fun b o e => sortedAll_old e) (Nat.le_succ _) (sortedAll_at s.heap vs out.toArray)
end
/-- sorted(xs), tuples of whole numbers: any lengths but nought, any number -/
def rSortL (K : PySem.W.Frag) : List V → Hp → VK → Prop := fun vs H Q => ∃ (a : Addr) (xs : List V), vs = [V.ref a] ∧ SqL K H a xs ∧ (∀ x ∈ xs, ∃ ns, TupI K H x ns ∧ ns ≠ []) ∧
  ∀ (ys : List V) (p : Addr), ys.Perm xs → ys.Pairwise (fun x y => ∀ n m, TupI K H x n → TupI K H y m → ltL m n = false) → H p = none → Q (.ref p) (upd H p (.lst ys))
theorem cr_sortL {X : Cx} : CallR X (.builtin "sorted") (rSortL X.K) := by
  intro pins s σ H vs us Q I r h
  obtain ⟨a, xs, rfl, hs, hx, q⟩ := h
  obtain ⟨its, rv, hl, hz⟩ := I.list hs
  rw [Vals.ref1 r]
  obtain ⟨e1, e2⟩ := bkV_refs rv fun x m => by
    obtain ⟨ns, ⟨t, e, _⟩, _⟩ := hx x m
    exact ⟨t, e⟩
  refine sortedL (k := TS.intsOf s.heap) hl.isList (by rw [← rv.length]; exact hz) (fun v hv => ?_) fun h' d out h1 h2 kp hd hn => ?_
  · obtain ⟨t, rfl⟩ := e2 v hv
    have hm : V.ref t ∈ xs := by
      rw [e1]
      exact List.mem_map.mpr ⟨_, hv, rfl⟩
    obtain ⟨ns, ⟨t', e, ht⟩, hn⟩ := hx _ hm
    cases e
    have := tupI_raw I ht
    rw [this.ints]
    exact ⟨this, hn⟩
  · obtain ⟨ep, he'⟩ := hn
    have h3 : ∀ u ∈ out, ∃ a, u = Value.ref a := fun u hu => e2 u (h2.mem_iff.mp hu)
    have hp : (out.map bkV).Perm xs := by
      rw [e1]
      exact h2.map bkV
    have hlen : (out.map bkV).length ≤ sizeLine := by
      rw [hp.length_eq]
      exact hz
    refine ⟨.ref d, upd H d (.lst (out.map bkV)), I.laid (t' := s.toks) kp hd ⟨hlen, out, ep, bkV_vals h3, he'⟩, rfl, q _ _ hp ?_ (I.hok.fresh hd)⟩
    rw [List.pairwise_map]
    refine List.Pairwise.imp (fun {u v} huv n m hn hm => ?_) h1
    obtain ⟨t, et, ht⟩ := hn
    obtain ⟨t', et', ht'⟩ := hm
    have i1 : TS.intsOf s.heap u = n := by
      rw [bkV_ref et]
      exact (tupI_raw I ht).ints
    have i2 : TS.intsOf s.heap v = m := by
      rw [bkV_ref et']
      exact (tupI_raw I ht').ints
    rw [← i1, ← i2]
    exact huv
end Lay

set_option Elab.async false
set_option maxRecDepth 100000
set_option linter.all false
/-! Lay, part Sq: sorted of a tuple of tuples of whole numbers. -/
namespace Lay
open PySem L2 PyProof.Rows
section
variable {prog : Program} {w : World} {A : Around} {E : Value → Shared → Prop} {s : Shared}
theorem sorted_tup {l : Addr} {vs : List Value} {lt : Value → Value → Bool} {Q : Value → Shared → Prop} (O : SrtO.Swo lt) (hl : s.heap.IsTuple l vs.toArray) (hz : vs.length ≤ sizeLine)
    (hS : 2 ≤ vs.length → ∀ (h1 : Heap) (a : Addr), h1.get? a = some (seqObj "list" vs.toArray 0) → (∀ b o, s.heap.get? b = some o → h1.get? b = some o) → SrtO.SortableO prog w A.in1.in1 { s with heap := h1 } a vs lt)
    (fin : ∀ (h1 h' : Heap) (d : Addr) (out : List Value), SrtO.Srtd lt out → out.Perm vs → (∀ b o, s.heap.get? b = some o → h1.get? b = some o) → (∀ b o, h1.get? b = some o → h'.get? b = some o) → h1.objs.size ≤ d → (∃ n, h'.get? d = some (seqObj "list" out.toArray n)) → Q (.ref d) { s with heap := h' }) :
    wpAny (model prog w) A (call (.builtin "sorted") [.ref l]) Q E s := by
  obtain ⟨o, ho, hc, n, hd⟩ := id hl
  refine Calls.call_function_entry kind_sorted plain_sorted entry_sorted (args_sorted1 _) ?_
  unfold Builtin.«sorted»
  refine wpAny_bind (m := checkCount "sorted" 1 1 _) (wpAny_pure ?_)
  refine wpAny_bind (wpAny_collect_seq l (.inr rfl) ho hc hd (fun h1 k1 => ?_) (by rw [List.size_toArray]; exact hz))
  refine wpAny_bind (wpAny_newList ?_ hz)
  have ea : (vs.toArray.toList).toArray = vs.toArray := by simp
  rw [ea]
  have kk : ∀ b o, s.heap.get? b = some o → (h1.push (seqObj "list" vs.toArray 0)).get? b = some o := fun b o q => Heap.get?_push_of_some _ (k1 b o q)
  have hoL : (h1.push (seqObj "list" vs.toArray 0)).get? h1.objs.size = some (seqObj "list" vs.toArray 0) := Heap.get?_push_size _ rfl
  refine wpAny_bind (wpAny_holding (wpAny_call_entry slot_list_sort ⟨_, hoL, rfl⟩ entry_list_sort (SrtO.list_sort_ord O hoL hz (fun h2 => hS h2 _ _ hoL kk) fun out hs hb => ⟨_, rfl, ?_⟩) (args_list_sort _)))
  refine wpAny_pure ⟨_, rfl, fin h1 _ h1.objs.size out hs hb.perm k1 (fun b o e => ?_) (Nat.le_refl _) (sortedHeap_at hoL)⟩
  have hlt := Heap.lt_size e
  exact (sortedHeap_old (Nat.ne_of_lt hlt) (by rw [Heap.size_push]; exact Nat.lt_succ_of_lt hlt)).trans (Heap.get?_push_of_some _ e)
end
/-- sorted(xs), xs a tuple -/
theorem cr_sortT2 {X : Cx} : CallR X (.builtin "sorted") (fun vs H Q => ∃ (a : Addr) (xs : List V), vs = [V.ref a] ∧ SqT X.K H a xs ∧ (∀ x ∈ xs, ∃ ns, TupI X.K H x ns ∧ ns ≠ []) ∧
    ∀ (ys : List V) (p : Addr), ys.Perm xs → ys.Pairwise (fun x y => ∀ n m, TupI X.K H x n → TupI X.K H y m → ltL m n = false) → H p = none → Q (.ref p) (upd H p (.lst ys))) := by
  intro pins s σ H vs us Q I r h
  obtain ⟨a, xs, rfl, hs, hx, q⟩ := h
  obtain ⟨its, rv, hT, hz⟩ := I.tuple hs
  rw [Vals.ref1 r]
  obtain ⟨e1, e2⟩ := bkV_refs rv fun x m => by
    obtain ⟨ns, ⟨t, e, _⟩, _⟩ := hx x m
    exact ⟨t, e⟩
  have hp0 : ∀ v ∈ its, TS.TupInts s.heap v (TS.intsOf s.heap v) ∧ TS.intsOf s.heap v ≠ [] := fun v hv => by
    obtain ⟨t, rfl⟩ := e2 v hv
    have hm : V.ref t ∈ xs := by
      rw [e1]
      exact List.mem_map.mpr ⟨_, hv, rfl⟩
    obtain ⟨ns, ⟨t', e, ht⟩, hn⟩ := hx _ hm
    cases e
    have := tupI_raw I ht
    rw [this.ints]
    exact ⟨this, hn⟩
  refine sorted_tup (swoL (TS.intsOf s.heap)) hT (by rw [← rv.length]; exact hz) (fun h2 h1 a1 ha kk => ?_) fun h1 h' d out o1 o2 k1 k2 hd hn => ?_
  · refine sortableL (s := { s with heap := h1 }) (by omega) (fun v hm => ⟨(hp0 v hm).1.keeps fun b o e _ => kk b o e, (hp0 v hm).2⟩) fun o e => ?_
    have e' : some o = some (seqObj "list" its.toArray 0) := e.symm.trans ha
    cases e'
    intro c
    exact absurd (Value.type.inj c) (by decide)
  · obtain ⟨ep, he'⟩ := hn
    have o3 : ∀ u ∈ out, ∃ a, u = Value.ref a := fun u hu => e2 u (o2.mem_iff.mp hu)
    have hp : (out.map bkV).Perm xs := by
      rw [e1]
      exact o2.map bkV
    have hlen : (out.map bkV).length ≤ sizeLine := by
      rw [hp.length_eq]
      exact hz
    have I1 : Inv X pins σ H { s with heap := h1 } := I.kept (t' := s.toks) k1
    refine ⟨.ref d, upd H d (.lst (out.map bkV)), I1.laid (t' := s.toks) k2 hd ⟨hlen, out, ep, bkV_vals o3, he'⟩, rfl, q _ _ hp ?_ (I1.hok.fresh hd)⟩
    rw [List.pairwise_map]
    refine List.Pairwise.imp (fun {u v} huv n m hn hm => ?_) o1
    obtain ⟨t, et, ht⟩ := hn
    obtain ⟨t', et', ht'⟩ := hm
    have i1 : TS.intsOf s.heap u = n := by
      rw [bkV_ref et]
      exact (tupI_raw I ht).ints
    have i2 : TS.intsOf s.heap v = m := by
      rw [bkV_ref et']
      exact (tupI_raw I ht').ints
    rw [← i1, ← i2]
    exact huv
end Lay

set_option Elab.async false
set_option maxRecDepth 100000
set_option linter.all false
/-! Lay, part G: built-in functions, methods of lists. -/
namespace Lay
open PySem L2 PyProof.Rows

/-! ### what repr reads -/
section
variable {X : Cx} {ps : List (Addr × Obj)} {σc : L2.St} {H : Hp} {s : Shared} {ρ : Rg} {M : Mem}
theorem keys_read {P : Program} {w : World} {h : Heap} : ∀ {es : List DictEntry} {kvs : List (Key × Value)} {ks : List (Key × D)} {ps : List (PyData × PyData)}, Pairs (mixKind P w) es kvs → ks.map (·.1) = kvs.map (·.1) → Pyk M ks ps →
    ReadsAll h (es.map (·.key)) (ps.map (·.1)) []
  | [], _, ks, _, hp, hk, q => by
    cases hp
    have : ks = [] := by simpa using hk
    subst this
    cases q
    exact .nil
  | e :: es, _, ks, _, hp, hk, q => by
    cases hp with
    | @cons _ kv _ kvs h1 h2 h3 =>
      cases q with
      | nil => simp at hk
      | @cons k d p ds qs q1 q2 =>
        simp only [List.map_cons, List.cons.injEq] at hk
        have ih := keys_read (h := h) h3 hk.2 q2
        have h0 : Reads h e.key (keyPy k) [] := by
          have h1' : keyIs kv.1 e.key = true := h1
          rw [← hk.1] at h1'
          rcases keyIs_shape h1' with ⟨i, t, e1, e2⟩ | ⟨x, t, e1, e2⟩
          · rw [e1, e2]; exact .int _ _
          · rw [e1, e2]; exact .str _ _
        simpa using ReadsAll.cons h0 ih
theorem keys_eq : ∀ {ks : List (Key × D)} {kx : List (Key × V)} {us : List (Key × Value)}, RDk ρ X.K H ks kx → KV kx us → ks.map (·.1) = us.map (·.1)
  | [], _, _, h, q => by cases h; cases q; rfl
  | (j, e) :: ks, _, _, h, q => by
    cases h with
    | cons h1 h2 =>
      cases q with
      | cons q1 q2 =>
        rw [List.map_cons, List.map_cons, keys_eq h2 q2]
        exact congrArg (· :: _) q1.1
mutual
theorem py_reads (J : Inv X ps σc H s) (r : Rel X.K ρ M H) : ∀ (p : PyData) (d : D) (v : V) (u : Value), Py M d p → RD ρ X.K H d v → RelV v u → ∃ as, Reads s.heap u p as ∧ ∀ a ∈ as, H a ≠ none
  | .none, _, _, _, h, q, ru => by cases h; cases q; cases ru; exact ⟨_, .none, by simp⟩
  | .bool _, _, _, _, h, q, ru => by cases h; cases q; cases ru; exact ⟨_, .bool _, by simp⟩
  | .int _, _, _, _, h, q, ru => by cases h; cases q; obtain ⟨t, rfl⟩ := ru; exact ⟨_, .int _ _, by simp⟩
  | .str _, _, _, _, h, q, ru => by cases h; cases q; obtain ⟨t, rfl⟩ := ru; exact ⟨_, .str _ _, by simp⟩
  | .tuple qs, _, _, _, h, q, ru => by
    cases h with
    | tup h1 =>
      cases q with
      | tup h2 h3 =>
        cases ru
        obtain ⟨its, rv, ⟨o, ho, hc, n, hd⟩, _⟩ := J.tuple h2
        obtain ⟨as, hr, ha⟩ := pys_reads J r qs _ _ its h1 h3 rv
        exact ⟨_, .tuple ho hc hd hr, ha⟩
  | .list qs, _, _, _, h, q, ru => by
    have go : ∀ {a : Addr} {vs : List V} {xs : List D} {u : Value}, H a = some (.lst vs) → Pys M xs qs → RDs ρ X.K H xs vs → RelV (.ref a) u → ∃ as, Reads s.heap u (.list qs) as ∧ ∀ a ∈ as, H a ≠ none := by
      intro a vs xs u h2 h1 h3 ru
      cases ru
      obtain ⟨its, rv, ⟨o, n, ho, hc, _, hd⟩, _⟩ := J.list (SqL.of h2)
      obtain ⟨as, hr, ha⟩ := pys_reads J r qs _ _ its h1 h3 rv
      refine ⟨_, .list ho hc hd hr, fun b hb => ?_⟩
      rcases List.mem_cons.mp hb with z | z
      · rw [z, h2]; intro q; cases q
      · exact ha b z
    cases h with
    | lst h1 =>
      cases q with
      | lst h2 _ h3 => exact go h2 h1 h3 ru
    | locL h1 h2 =>
      cases q with
      | loc h3 =>
        obtain ⟨o, e1, vs, e2, h4⟩ := r.cell _ _ _ h1 h3
        subst e2
        exact go e1 h2 h4 ru
  | .dict qs, _, _, _, h, q, ru => by
    have go : ∀ {a : Addr} {vs : List (Key × V)} {xs : List (Key × D)} {u : Value}, H a = some (.dK vs) → Pyk M xs qs → RDk ρ X.K H xs vs → RelV (.ref a) u → ∃ as, Reads s.heap u (.dict qs) as ∧ ∀ a ∈ as, H a ≠ none := by
      intro a vs xs u h2 h1 h3 ru
      cases ru
      obtain ⟨_, _, us, hkv, o, es, ep, ho, hc, hd, hko, hpr, hnd⟩ := dk_of J.hok h2
      have hvals := pyk_reads J r qs xs vs us es.toList h1 h3 hkv hpr
      obtain ⟨as, hr, ha⟩ := hvals
      have hkeys : ReadsAll s.heap (es.toList.map (·.key)) (qs.map (·.1)) [] := keys_read hpr (keys_eq h3 hkv) h1
      refine ⟨_, .dict ho hc.1 hd hkeys hr, fun b hb => ?_⟩
      rcases List.mem_append.mp hb with z | z
      · rcases List.mem_cons.mp z with z | z
        · rw [z, h2]; intro q; cases q
        · cases z
      · exact ha b z
    cases h with
    | dct h1 =>
      cases q with
      | dct h2 _ h3 => exact go h2 h1 h3 ru
    | locD h1 h2 =>
      cases q with
      | loc h3 =>
        obtain ⟨o, e1, vs, e2, h4⟩ := r.cell _ _ _ h1 h3
        subst e2
        exact go e1 h2 h4 ru
theorem pys_reads (J : Inv X ps σc H s) (r : Rel X.K ρ M H) : ∀ (qs : List PyData) (ds : List D) (vs : List V) (us : List Value), Pys M ds qs → RDs ρ X.K H ds vs → Vals vs us → ∃ as, ReadsAll s.heap us qs as ∧ ∀ a ∈ as, H a ≠ none
  | [], _, _, _, h, q, ru => by cases h; cases q; cases ru; exact ⟨_, .nil, by simp⟩
  | p :: qs, _, _, _, h, q, ru => by
    cases h with
    | cons h1 h2 =>
      cases q with
      | cons q1 q2 =>
        cases ru with
        | cons r1 r2 =>
          obtain ⟨as, e1, e2⟩ := py_reads J r p _ _ _ h1 q1 r1
          obtain ⟨bs, e3, e4⟩ := pys_reads J r qs _ _ _ h2 q2 r2
          exact ⟨_, .cons e1 e3, fun a ha => (List.mem_append.mp ha).elim (e2 a) (e4 a)⟩
theorem pyk_reads (J : Inv X ps σc H s) (r : Rel X.K ρ M H) : ∀ (qs : List (PyData × PyData)) (ks : List (Key × D)) (kx : List (Key × V)) (us : List (Key × Value)) (es : List DictEntry), Pyk M ks qs → RDk ρ X.K H ks kx → KV kx us → Pairs (mixKind X.prog X.w) es us →
    ∃ as, ReadsAll s.heap (es.map (·.val)) (qs.map (·.2)) as ∧ ∀ a ∈ as, H a ≠ none
  | [], _, _, _, _, h, q, ru, pr => by cases h; cases q; cases ru; cases pr; exact ⟨_, .nil, by simp⟩
  | (a, p) :: qs, _, _, _, _, h, q, ru, pr => by
    cases h with
    | cons h1 h2 =>
      cases q with
      | cons q1 q2 =>
        cases ru with
        | cons r1 r2 =>
          cases pr with
          | cons p1 p2 p3 =>
            obtain ⟨as, e1, e2⟩ := py_reads J r p _ _ _ h1 q1 r1.2
            obtain ⟨bs, e3, e4⟩ := pyk_reads J r qs _ _ _ _ h2 q2 r2 p3
            refine ⟨as ++ bs, ?_, fun a ha => (List.mem_append.mp ha).elim (e2 a) (e4 a)⟩
            rw [List.map_cons, List.map_cons, p2]
            exact .cons e1 e3
end
end

theorem call_repr_any {X : Cx} (hg : X.A.guards = some []) (hu : X.A.units + 66 < cLine) (hy : ∃ o, X.base.get? sysModules = some o) :
    CallR X (.builtin "repr") (fun xs H Q => ∃ ρ M d v p, xs = [v] ∧ Rel X.K ρ M H ∧ RD ρ X.K H d v ∧ Py M d p ∧ Fit p ∧ Q (.str p.shown) H) := by
  intro ps s σc H xs us Q J rv hq
  obtain ⟨ρ, M, d, v, p, rfl, r, hd, hp, hf, q⟩ := hq
  obtain ⟨u, rfl, ru⟩ := vals1 rv
  obtain ⟨as, hr, ha⟩ := py_reads J r p d v u hp hd ru
  have hno : sysModules ∉ as := fun z => by
    obtain ⟨o, ho⟩ := hy
    exact ha _ z (J.bs _ _ ho).2
  have hs := hf.show_
  have hz := hf.size
  have hdp := hf.deep
  cases hr with
  | none => exact PySem.P.repr_of_none ⟨.str _, H, J.tok _, ⟨_, by simp only [PyData.shown]; first | rfl | decide +kernel⟩, q⟩
  | bool b => exact PySem.P.repr_of_bool ⟨.str _, H, J.tok _, ⟨_, by simp only [PyData.shown]; first | rfl | (cases b <;> rfl)⟩, q⟩
  | int i t => exact PySem.P.repr_of_int (by simpa [PyData.showable] using hs) ⟨.str _, H, J.tok _, ⟨_, by simp only [PyData.shown]; rfl⟩, q⟩
  | str x t => exact PySem.P.repr_of_str ⟨.str _, H, J.tok _, ⟨_, by simp only [PyData.shown]; rfl⟩, q⟩ (by simpa only [PyData.shown] using hz)
  | list h1 h2 h3 h4 => exact repr_of_reads' (.list h1 h2 h3 h4) hs (fun _ => hno) hg (by omega) (fun _ _ e => e) (fun h' u tk hk => ⟨.str _, H, J.kept hk, ⟨_, rfl⟩, q⟩) hz
  | tuple h1 h2 h3 h4 => exact repr_of_reads' (.tuple h1 h2 h3 h4) hs (fun _ => hno) hg (by omega) (fun _ _ e => e) (fun h' u tk hk => ⟨.str _, H, J.kept hk, ⟨_, rfl⟩, q⟩) hz
  | dict h1 h2 h3 h4 h5 => exact repr_of_reads' (.dict h1 h2 h3 h4 h5) hs (fun _ => hno) hg (by omega) (fun _ _ e => e) (fun h' u tk hk => ⟨.str _, H, J.kept hk, ⟨_, rfl⟩, q⟩) hz

/-! ### built-in functions by values -/
def bfVal : BF → Value
  | .len => .builtin "len" | .isinst => .builtin "isinstance" | .repr => .builtin "repr" | .abs => .builtin "abs" | .int => .type "int" | .str => .type "str" | .list => .type "list" | .tuple => .type "tuple"
  | .sum => .builtin "sum" | .sorted => .builtin "sorted" | .all => .builtin "all" | .any => .builtin "any" | .max => .builtin "max" | .min => .builtin "min"
def bfName : BF → Str
  | .len => "len" | .isinst => "isinstance" | .repr => "repr" | .abs => "abs" | .int => "int" | .str => "str" | .list => "list" | .tuple => "tuple"
  | .sum => "sum" | .sorted => "sorted" | .all => "all" | .any => "any" | .max => "max" | .min => "min"
section
variable {K : PySem.W.Frag} {ρ : Rg} {M : Mem} {H : Hp}
theorem ints_rel : ∀ {xs : List D} {vs : List V} {is : List Int}, RDs ρ K H xs vs → allInts xs = some is → vs = is.map V.int
  | [], _, _, h, e => by cases h; cases e; rfl
  | x :: xs, _, is, h, e => by
    cases h with
    | cons h1 h2 =>
      cases x with
      | int i =>
        cases hr : allInts xs with
        | none => simp [allInts, hr] at e
        | some js =>
          simp [allInts, hr] at e
          subst e
          rw [h1.toInt, ints_rel h2 hr]
          rfl
      | _ => cases e
theorem bls_rel : ∀ {xs : List D} {vs : List V} {is : List Bool}, RDs ρ K H xs vs → allBls xs = some is → vs = is.map V.bl
  | [], _, _, h, e => by cases h; cases e; rfl
  | x :: xs, _, is, h, e => by
    cases h with
    | cons h1 h2 =>
      cases x with
      | bl i =>
        cases hr : allBls xs with
        | none => simp [allBls, hr] at e
        | some js =>
          simp [allBls, hr] at e
          subst e
          rw [h1.toBl, bls_rel h2 hr]
          rfl
      | _ => cases e
theorem rds_ints : ∀ (is : List Int), RDs ρ K H (is.map D.int) (is.map V.int)
  | [] => .nil
  | i :: is => .cons (.int i) (rds_ints is)
theorem tupI_rd {t : List Int} {v : V} (h : RD ρ K H (tupI t) v) : TupI K H v t := by
  obtain ⟨a, vs, rfl, h1, h2⟩ := RD.toTup h
  have hi : allInts (t.map D.int) = some t := by
    clear h h1 h2
    induction t with
    | nil => rfl
    | cons i t ih => simp [allInts, ih]
  rw [ints_rel h2 hi] at h1
  exact ⟨a, rfl, h1⟩
theorem tups_mem : ∀ {ts : List (List Int)} {vs : List V} {v : V}, RDs ρ K H (ts.map tupI) vs → v ∈ vs → ∃ t, t ∈ ts ∧ RD ρ K H (tupI t) v
  | [], _, _, h, hv => by cases h; cases hv
  | t :: ts, _, v, h, hv => by
    cases h with
    | cons h1 h2 =>
      rcases List.mem_cons.mp hv with rfl | hv
      · exact ⟨t, List.mem_cons_self, h1⟩
      · obtain ⟨t', a, b⟩ := tups_mem h2 hv
        exact ⟨t', List.mem_cons_of_mem _ a, b⟩
theorem tups_perm {ts : List (List Int)} {vs ys : List V} (h : RDs ρ K H (ts.map tupI) vs) (p : ys.Perm vs) : ∃ ts' : List (List Int), RDs ρ K H (ts'.map tupI) ys ∧ ts'.Perm ts := by
  induction p generalizing ts with
  | nil => cases ts with
    | nil => exact ⟨[], .nil, .nil⟩
    | cons => cases h
  | cons x p ih =>
    cases ts with
    | nil => cases h
    | cons t ts =>
      cases h with
      | cons h1 h2 =>
        obtain ⟨ts', a, b⟩ := ih h2
        exact ⟨t :: ts', .cons h1 a, .cons _ b⟩
  | swap x y l =>
    match ts, h with
    | [], h => cases h
    | [_], .cons _ h => cases h
    | t :: u :: ts, .cons h1 (.cons h2 h3) => exact ⟨u :: t :: ts, .cons h2 (.cons h1 h3), .swap ..⟩
  | trans p1 p2 ih1 ih2 =>
    obtain ⟨t1, a1, b1⟩ := ih2 h
    obtain ⟨t2, a2, b2⟩ := ih1 a1
    exact ⟨t2, a2, b2.trans b1⟩
theorem tups_pair : ∀ {ts : List (List Int)} {vs : List V}, RDs ρ K H (ts.map tupI) vs → vs.Pairwise (fun x y => ∀ n m, TupI K H x n → TupI K H y m → ltL m n = false) → ts.Pairwise (fun x y => ltL y x = false)
  | [], _, _, _ => .nil
  | t :: ts, _, h, p => by
    cases h with
    | cons h1 h2 =>
      have p' := List.pairwise_cons.mp p
      refine List.pairwise_cons.mpr ⟨fun u hu => ?_, tups_pair h2 p'.2⟩
      obtain ⟨i, hi⟩ := List.mem_iff_getElem?.mp hu
      obtain ⟨v, hv, hr⟩ := h2.get (i := i) (d := tupI u) (by rw [List.getElem?_map, hi]; rfl)
      exact p'.1 v (List.mem_of_getElem? hv) t u (tupI_rd h1) (tupI_rd hr)
theorem tyName_ok (r : Rel K ρ M H) {d : D} {v : V} {t : String} (h : RD ρ K H d v) (e : tyName d M = some t) : TyX K H v (.type t) ∧ t ∈ ["NoneType", "bool", "int", "str", "tuple", "list", "dict"] := by
  cases h with
  | non => cases e; exact ⟨.base .non, by simp⟩
  | bl => cases e; exact ⟨.base (.bl _), by simp⟩
  | int => cases e; exact ⟨.base (.int _), by simp⟩
  | str => cases e; exact ⟨.base (.str _), by simp⟩
  | ty => cases e
  | tup h1 h2 =>
    cases e
    refine ⟨?_, by simp⟩
    rcases h1 with (h1 | ⟨o, h1⟩) | ⟨o, its, n, h1, h3, h4⟩
    · exact .base (.tup h1)
    · exact .fTuple h1
    · exact .kTuple h1 h3
  | lst h1 h2 h3 => cases e; exact ⟨.base (.lst h1), by simp⟩
  | fz h1 h2 =>
    cases e
    refine ⟨?_, by simp⟩
    rcases h1 with ⟨o, h1⟩ | ⟨o, its, n, h1, h3, h4⟩
    · exact .base (.frz h1)
    · exact .kList h1 h3
  | dct h1 h2 h3 => cases e; exact ⟨.base (.dK h1), by simp⟩
  | @loc n a h1 =>
    cases hM : M[n]? with
    | none => simp [tyName, hM] at e
    | some c =>
      obtain ⟨o, e1, q⟩ := r.cell _ _ _ hM h1
      cases c with
      | lst ds =>
        obtain ⟨vs, e2, _⟩ := q
        subst e2
        simp [tyName, hM] at e
        subst e
        exact ⟨.base (.lst e1), by simp⟩
      | dic ds =>
        obtain ⟨vs, e2, _⟩ := q
        subst e2
        simp [tyName, hM] at e
        subst e
        exact ⟨.base (.dK e1), by simp⟩
theorem isTy_ok {t n : String} (h1 : t ∈ ["NoneType", "bool", "int", "str", "tuple", "list", "dict"]) (h2 : n ∈ ["int", "bool", "str", "tuple", "list", "dict"]) : PySem.W.kitOne K (.type t) (.type n) = some (isTy t n) := by
  have hh : ∀ t ∈ ["NoneType", "bool", "int", "str", "tuple", "list", "dict"], ∀ n ∈ ["int", "bool", "str", "tuple", "list", "dict"], kitB t n = some (isTy t n) := by decide +kernel
  exact kit_ty (hh t h1 n h2)
end
structure Cd (X : Cx) : Prop where
  calm : X.calm = true
  units : X.A.units + 66 < cLine
  guards : X.A.guards = some []
  sys : ∃ o, X.base.get? sysModules = some o
theorem bf_ok (X : Cx) (cd : Cd X) (f : BF) : ∃ r, CallR X (bfVal f) r ∧ ∀ (ρ : Rg) (M : Mem) (H : Hp) (vs : List V) (ds : List D) (Q : Kd) (Qc : VK), Rel X.K ρ M H → RDs ρ X.K H ds vs → opB f ds M Q → Kt X.K ρ H Q Qc → r vs H Qc := by
  have one : ∀ {ρ : Rg} {H : Hp} {d : D} {vs : List V}, RDs ρ X.K H [d] vs → ∃ v, vs = [v] ∧ RD ρ X.K H d v := by
    intro ρ H d vs h
    cases h with
    | cons h1 h2 => cases h2; exact ⟨_, rfl, h1⟩
  have two : ∀ {ρ : Rg} {H : Hp} {d e : D} {vs : List V}, RDs ρ X.K H [d, e] vs → ∃ v w, vs = [v, w] ∧ RD ρ X.K H d v ∧ RD ρ X.K H e w := by
    intro ρ H d e vs h
    cases h with
    | cons h1 h2 =>
      obtain ⟨w, rfl, h3⟩ := one h2
      exact ⟨_, w, rfl, h1, h3⟩
  have hu := cd.units
  cases f with
  | len =>
    refine ⟨_, CallR.or call_len_seq call_len_str, fun ρ M H vs ds Q Qc r hd h k => ?_⟩
    obtain ⟨d, rfl, h⟩ := h
    obtain ⟨v, rfl, h1⟩ := one hd
    rcases h with ⟨xs, e, q⟩ | ⟨x, rfl, z, q⟩
    · obtain ⟨a, ws, rfl, h2, h3⟩ := sqOf_read r h1 e
      exact .inl ⟨a, ws, rfl, h2, by rw [← h3.len]; exact k.int r q⟩
    · exact .inr ⟨x, by rw [h1.toStr], z, k.int r q⟩
  | isinst =>
    refine ⟨_, call_isi, fun ρ M H vs ds Q Qc r hd h k => ?_⟩
    obtain ⟨d, n, t, rfl, e, hn, q⟩ := h
    obtain ⟨v, w, rfl, h1, h2⟩ := two hd
    obtain ⟨hx, ht⟩ := tyName_ok r h1 e
    exact ⟨v, w, .type t, .type n, _, rfl, by rw [h2.toTy]; exact .ty n, hx, isTy_ok ht hn, k.bl r q⟩
  | repr =>
    refine ⟨_, call_repr_any cd.guards cd.units cd.sys, fun ρ M H vs ds Q Qc r hd h k => ?_⟩
    obtain ⟨d, p, rfl, hp, hf, q⟩ := h
    obtain ⟨v, rfl, h1⟩ := one hd
    exact ⟨ρ, M, d, v, p, rfl, r, h1, hp, hf, k.str r q⟩
  | abs =>
    refine ⟨_, call_abs, fun ρ M H vs ds Q Qc r hd h k => ?_⟩
    obtain ⟨i, rfl, q⟩ := h
    obtain ⟨v, rfl, h1⟩ := one hd
    exact ⟨i, by rw [h1.toInt], k.int r q⟩
  | int =>
    refine ⟨_, call_int1, fun ρ M H vs ds Q Qc r hd h k => ?_⟩
    rcases h with ⟨i, rfl, q⟩ | ⟨b, rfl, q⟩
    · obtain ⟨v, rfl, h1⟩ := one hd
      exact .inl ⟨i, by rw [h1.toInt], k.int r q⟩
    · obtain ⟨v, rfl, h1⟩ := one hd
      exact .inr ⟨b, by rw [h1.toBl], k.int r q⟩
  | str =>
    refine ⟨_, call_str_int, fun ρ M H vs ds Q Qc r hd h k => ?_⟩
    obtain ⟨i, rfl, z, q⟩ := h
    obtain ⟨v, rfl, h1⟩ := one hd
    exact ⟨i, by rw [h1.toInt], z, k.str r q⟩
  | list =>
    refine ⟨_, call_list_of, fun ρ M H vs ds Q Qc r hd h k => ?_⟩
    obtain ⟨d, xs, rfl, e, q⟩ := h
    obtain ⟨v, rfl, h1⟩ := one hd
    obtain ⟨a, ws, rfl, h2, h3⟩ := sqOf_read r h1 e
    exact ⟨a, ws, rfl, h2, fun p hp => k.lst r h3 q hp⟩
  | tuple =>
    refine ⟨_, call_tuple_of, fun ρ M H vs ds Q Qc r hd h k => ?_⟩
    obtain ⟨d, xs, rfl, e, q⟩ := h
    obtain ⟨v, rfl, h1⟩ := one hd
    obtain ⟨a, ws, rfl, h2, h3⟩ := sqOf_read r h1 e
    refine ⟨a, ws, rfl, ?_⟩
    rcases h2 with h2 | h2
    · exact .inl ⟨h2, fun p hp => k.tup r h3 q hp⟩
    · exact .inr ⟨h2, k.old r (.tup h2 h3) q⟩
  | sum =>
    refine ⟨_, cr_sum cd.calm, fun ρ M H vs ds Q Qc r hd h k => ?_⟩
    obtain ⟨d, xs, is, rfl, e, ei, q⟩ := h
    obtain ⟨v, rfl, h1⟩ := one hd
    obtain ⟨a, ws, rfl, h2, h3⟩ := lsOf_read r h1 e
    exact ⟨a, is, rfl, by rw [← ints_rel h3 ei]; exact SqL.of h2, k.int r q⟩
  | sorted =>
    refine ⟨_, CallR.or cr_sortedI (CallR.or cr_sortL cr_sortT2), fun ρ M H vs ds Q Qc r hd h k => ?_⟩
    rcases h with ⟨d, xs, is, rfl, e, ei, q⟩ | ⟨d, ts, rfl, e, hne, q⟩
    · obtain ⟨v, rfl, h1⟩ := one hd
      obtain ⟨a, ws, rfl, h2, h3⟩ := lsOf_read r h1 e
      exact .inl ⟨a, is, rfl, by rw [← ints_rel h3 ei]; exact SqL.of h2, fun js p h4 h5 hp => k.lst r (rds_ints js) (q js h4 h5) hp⟩
    · obtain ⟨v, rfl, h1⟩ := one hd
      obtain ⟨a, ws, rfl, h2, h3⟩ := sqOf_read r h1 e
      have fit : ∀ x ∈ ws, ∃ ns, TupI X.K H x ns ∧ ns ≠ [] := fun x hx => by
        obtain ⟨t, ht, hr⟩ := tups_mem h3 hx
        exact ⟨t, tupI_rd hr, hne t ht⟩
      have out : ∀ (ys : List V) (p : Addr), ys.Perm ws → ys.Pairwise (fun x y => ∀ n m, TupI X.K H x n → TupI X.K H y m → ltL m n = false) → H p = none → Qc (.ref p) (upd H p (.lst ys)) := fun ys p h4 h5 hp => by
        obtain ⟨ts', h6, h7⟩ := tups_perm h3 h4
        exact k.lst r h6 (q ts' h7 (tups_pair h6 h5)) hp
      rcases h2 with h2 | h2
      · exact .inr (.inl ⟨a, ws, rfl, h2, fit, out⟩)
      · exact .inr (.inr ⟨a, ws, rfl, h2, fit, out⟩)
  | all =>
    refine ⟨_, cr_all cd.calm, fun ρ M H vs ds Q Qc r hd h k => ?_⟩
    obtain ⟨d, xs, is, rfl, e, ei, q⟩ := h
    obtain ⟨v, rfl, h1⟩ := one hd
    obtain ⟨a, ws, rfl, h2, h3⟩ := lsOf_read r h1 e
    exact ⟨a, is, rfl, by rw [← bls_rel h3 ei]; exact SqL.of h2, k.bl r q⟩
  | any =>
    refine ⟨_, cr_any cd.calm, fun ρ M H vs ds Q Qc r hd h k => ?_⟩
    obtain ⟨d, xs, is, rfl, e, ei, q⟩ := h
    obtain ⟨v, rfl, h1⟩ := one hd
    obtain ⟨a, ws, rfl, h2, h3⟩ := lsOf_read r h1 e
    exact ⟨a, is, rfl, by rw [← bls_rel h3 ei]; exact SqL.of h2, k.bl r q⟩
  | max =>
    refine ⟨_, CallR.or (call_max2 cd.calm) (cr_max cd.calm), fun ρ M H vs ds Q Qc r hd h k => ?_⟩
    rcases h with ⟨i, j, rfl, q⟩ | ⟨d, xs, is, rfl, e, ei, hn, q⟩
    · obtain ⟨v, w, rfl, h1, h2⟩ := two hd
      exact .inl ⟨i, j, by rw [h1.toInt, h2.toInt], k.int r q⟩
    · obtain ⟨v, rfl, h1⟩ := one hd
      obtain ⟨a, ws, rfl, h2, h3⟩ := lsOf_read r h1 e
      exact .inr ⟨a, is, rfl, by rw [← ints_rel h3 ei]; exact SqL.of h2, List.length_pos_iff.mpr hn, fun m h4 h5 => k.int r (q m h4 h5)⟩
  | min =>
    refine ⟨_, CallR.or (call_min2 cd.calm) (cr_min cd.calm), fun ρ M H vs ds Q Qc r hd h k => ?_⟩
    rcases h with ⟨i, j, rfl, q⟩ | ⟨d, xs, is, rfl, e, ei, hn, q⟩
    · obtain ⟨v, w, rfl, h1, h2⟩ := two hd
      exact .inl ⟨i, j, by rw [h1.toInt, h2.toInt], k.int r q⟩
    · obtain ⟨v, rfl, h1⟩ := one hd
      obtain ⟨a, ws, rfl, h2, h3⟩ := lsOf_read r h1 e
      exact .inr ⟨a, is, rfl, by rw [← ints_rel h3 ei]; exact SqL.of h2, List.length_pos_iff.mpr hn, fun m h4 h5 => k.int r (q m h4 h5)⟩
theorem bf_boot (f : BF) : bootBuiltins (bfName f) = some (bfVal f) := by cases f <;> decide +kernel
abbrev mBf (f : BF) (ml : WL) : WE := fun σ M Xp Q => ml σ M Xp fun ds M1 => opB f ds M1 Q
section
variable {X : Cx} {W : WX} {e : Expr} {es : List Expr} {ml : WL} {p pos : Pos}
theorem se_bf (cd : Cd X) (f : BF) (hg : Gl X (bfName f)) (hm : X.mg (bfName f) = none) (ha : PA X (e :: es) (TML X W ml)) (he : starEach (e :: es) X.env = (false, eval e X.env) :: starEach es X.env)
    (hpl : (backTo pos (starEach es X.env)).any (·.1) = false) : PE X (.Call (.Name (bfName f) p) (e :: es) [] pos) (TM X W (mBf f ml)) := by
  obtain ⟨r0, h0, hs⟩ := bf_ok X cd f
  have hn : bfName f ≠ "__name__" := by cases f <;> decide
  have hdb : (bfName f == ("__debug__" : Str)) = false := by cases f <;> decide
  have hc : PE X (.Call (.Name (bfName f) p) (e :: es) [] pos) (tCB r0 (TML X W ml)) := by
    have hb := bf_boot f
    cases f <;> first | exact pe_callB h0 hg hm hb ha hn hdb he hpl | exact pe_callTy h0 hg hm hb ha hn hdb he hpl
  refine hc.sub fun σc H Qc h => ?_
  obtain ⟨ρ, M, σ, Q, Xp, r, s, h, k, kx⟩ := h
  exact ⟨ρ, M, σ, _, Xp, r, s, h, fun ρ1 M1 H1 ds vs e1 r1 hd h1 => hs ρ1 M1 H1 vs ds Q Qc r1 hd h1 (k.later e1), kx⟩

/-! ### methods of lists -/
def mtName : MT → Str
  | .append => "append" | .pop => "pop" | .extend => "extend"
def mtId : MT → String
  | .append => "list.append" | .pop => "list.pop" | .extend => "list.extend"
theorem mt_slot (m : MT) : Slot "list" (mtName m) (mtId m) := by
  cases m
  · exact PySem.F.slot_list_append
  · exact PySem.F.slot_list_pop
  · exact PySem.F.slot_list_extend
theorem mt_type (m : MT) : typeOf (.builtin (mtId m)) = pure (.type "method_descriptor") := by
  cases m
  · exact PySem.F.type_list_append
  · exact PySem.F.type_list_pop
  · exact PySem.F.type_list_extend
theorem mt_ok (X : Cx) (m : MT) : ∃ r, MtR X (mtId m) r ∧ ∀ (ρ : Rg) (M : Mem) (H : Hp) (x : V) (d : D) (vs : List V) (ds : List D) (Q : Kd) (Qc : VK), Rel X.K ρ M H → RD ρ X.K H d x → RDs ρ X.K H ds vs → opM m d ds M Q → Kt X.K ρ H Q Qc → r x vs H Qc := by
  -- a cell is written, its old value handed out
  have wr : ∀ {ρ : Rg} {M : Mem} {H : Hp} {n : Nat} {a : Addr} {xs : List D} {vs : List V} {Q : Kd} {Qc : VK} {d : D} {v : V}, Rel X.K ρ M H → ρ.l[n]? = some a → RD ρ X.K H d v → RDs ρ X.K H xs vs → Kt X.K ρ H Q Qc → Q d (M.set n (.lst xs)) → Qc v (upd H a (.lst vs)) := by
    intro ρ M H n a xs vs Q Qc d v r hn hd hx k q
    have ew : Ext ρ H ρ (upd H a (.lst vs)) := Ext.write (List.mem_of_getElem? hn)
    exact k ρ _ _ d v ew (r.write (c := .lst xs) hn ⟨vs, rfl, r.monos ew hx⟩) (RR.of (r.mono ew hd)) (Frs.no hd.nofr) q
  have cell : ∀ {ρ : Rg} {M : Mem} {H : Hp} {n : Nat} {x : V} {xs : List D}, Rel X.K ρ M H → RD ρ X.K H (.loc n) x → M[n]? = some (.lst xs) → ∃ a vs, x = .ref a ∧ ρ.l[n]? = some a ∧ H a = some (.lst vs) ∧ RDs ρ X.K H xs vs := by
    intro ρ M H n x xs r h e
    cases h with
    | loc h1 =>
      obtain ⟨o, e1, vs, e2, q⟩ := r.cell _ _ _ e h1
      subst e2
      exact ⟨_, vs, rfl, h1, e1, q⟩
  cases m with
  | append =>
    refine ⟨_, mt_append, fun ρ M H x d vs ds Q Qc r hx hd h k => ?_⟩
    obtain ⟨n, xs, e, rfl, rfl, hM, z, q⟩ := h
    obtain ⟨a, ws, rfl, h1, h2, h3⟩ := cell r hx hM
    cases hd with
    | cons d1 d2 =>
      cases d2
      exact ⟨a, ws, _, rfl, rfl, h2, by rw [← h3.len]; exact z, wr r h1 .non (h3.app (.cons d1 .nil)) k q⟩
  | pop =>
    refine ⟨_, MtR.or mt_pop mt_popAt, fun ρ M H x d vs ds Q Qc r hx hd h k => ?_⟩
    obtain ⟨n, xs, rfl, hM, h⟩ := h
    obtain ⟨a, ws, rfl, h1, h2, h3⟩ := cell r hx hM
    rcases h with ⟨rfl, e, he, q⟩ | ⟨i, j, e, rfl, z1, z2, z3, he, q⟩
    · cases hd
      obtain ⟨v, hv, hr⟩ := h3.get he
      exact .inl ⟨a, ws, v, rfl, rfl, h2, by rw [← h3.len]; exact hv, wr r h1 hr h3.dropLast k q⟩
    · obtain ⟨v, hv, hr⟩ := h3.get he
      cases hd with
      | cons d1 d2 =>
        cases d2
        exact .inr ⟨a, ws, i, j, v, rfl, by rw [d1.toInt], h2, z1, z2, by rw [← h3.len]; exact z3, hv, wr r h1 hr (h3.erase j) k q⟩
  | extend =>
    refine ⟨_, mt_extend, fun ρ M H x d vs ds Q Qc r hx hd h k => ?_⟩
    obtain ⟨n, xs, e, ys, rfl, rfl, hM, he, hne, z, q⟩ := h
    obtain ⟨a, ws, rfl, h1, h2, h3⟩ := cell r hx hM
    cases hd with
    | cons d1 d2 =>
      cases d2
      obtain ⟨b, us, rfl, h4, h5⟩ := lsOf_read r d1 he
      exact ⟨a, b, ws, us, rfl, rfl, h2, h4, by rw [← h3.len, ← h5.len]; exact z, wr r h1 .non (h3.app h5) k q⟩
abbrev mMt (m : MT) (mo : WE) (ml : WL) : WE := fun σ M Xp Q => mo σ M Xp fun x M1 => (∃ n xs, shr x = .loc n ∧ M1[n]? = some (.lst xs)) ∧ ml σ M1 Xp fun ds M2 => opM m (shr x) ds M2 Q
section
variable {X : Cx} {W : WX} {o e : Expr} {es : List Expr} {mo : WE} {ml : WL} {apos cpos : Pos}
theorem list_ty {ρ : Rg} {M : Mem} {H : Hp} {d : D} {v : V} (r : Rel X.K ρ M H) (h : RD ρ X.K H d v) (e : ∃ n xs, d = .loc n ∧ M[n]? = some (.lst xs)) : tyV X.K "list" v H := by
  obtain ⟨n, xs, rfl, hM⟩ := e
  cases h with
  | loc h1 =>
    obtain ⟨o, e1, vs, e2, q⟩ := r.cell _ _ _ hM h1
    subst e2
    exact .inl ⟨rfl, vs, SqL.of e1⟩
theorem se_mt0 (m : MT) (ho : PE X o (TM X W mo)) (hb : attributeBase o (mtName m) X.env (eval o X.env) = eval o X.env) (hl : (apos.endLine == cpos.line) = true) :
    PE X (.Call (.Attribute o (mtName m) apos) [] [] cpos) (TM X W (mMt m mo fun _ M _ Q => Q [] M)) := by
  obtain ⟨r0, h0, hs⟩ := mt_ok X m
  refine (pe_bm0 PySem.F.plainAttrs_list (mt_slot m) (mt_type m) h0 ho hb hl).sub fun σc H Qc h => ?_
  obtain ⟨ρ, M, σ, Q, Xp, r, s, h, k, kx⟩ := h
  exact ⟨ρ, M, σ, _, Xp, r, s, h, fun ρ1 M1 H1 d v e1 r1 hd _ h1 => ⟨list_ty r1 hd.1 h1.1, hs ρ1 M1 H1 v _ [] [] Q Qc r1 hd.1 .nil h1.2 (k.later e1)⟩, kx⟩
theorem se_mt (m : MT) (ho : PE X o (TM X W mo)) (ha : PA X (e :: es) (TML X W ml)) (hb : attributeBase o (mtName m) X.env (eval o X.env) = eval o X.env)
    (hf : ((backTo cpos (starEach (e :: es) X.env)).all (fun x => !x.1) && (backToKw cpos (keywordEach [] X.env)).all (fun x => x.1.isSome)
      && decide ((e :: es).length + ([] : List Keyword).length + (if ([] : List Keyword).isEmpty then 0 else 1) < 30)) = true)
    (hl : (apos.endLine == cpos.line) = true) (hs : starEach (e :: es) X.env = (false, eval e X.env) :: starEach es X.env) (hpl : (backTo cpos (starEach es X.env)).any (·.1) = false) :
    PE X (.Call (.Attribute o (mtName m) apos) (e :: es) [] cpos) (TM X W (mMt m mo ml)) := by
  obtain ⟨r0, h0, hr⟩ := mt_ok X m
  refine (pe_bm PySem.F.plainAttrs_list (mt_slot m) (mt_type m) h0 ho ha hb hf hl hs hpl).sub fun σc H Qc h => ?_
  obtain ⟨ρ, M, σ, Q, Xp, r, s, h, k, kx⟩ := h
  exact ⟨ρ, M, σ, _, Xp, r, s, h, fun ρ1 M1 H1 d v e1 r1 hd _ h1 => ⟨list_ty r1 hd.1 h1.1, ρ1, M1, σ, _, Xp, r1, s.mono r e1, h1.2, fun ρ2 M2 H2 ds vs e2 r2 hds h2 =>
    hr ρ2 M2 H2 v _ vs ds Q Qc r2 (hd.mono r1 e2) hds h2 (k.later (e1.trans e2)), kx.later e1⟩, kx⟩

/-! ### a cell for what was just made -/
abbrev mMk (me : WE) : WE := fun σ M Xp Q => me σ M Xp fun d M1 => (∃ xs, d = .fr (.lst xs) ∧ Q (.loc M1.length) (M1 ++ [.lst xs])) ∨ (∃ ks, d = .fr (.dct ks) ∧ Q (.loc M1.length) (M1 ++ [.dic ks])) ∨ ((∀ e, d ≠ .fr e) ∧ Q d M1)
theorem mk_sub {X : Cx} {W : WX} {me : WE} : ∀ σc H Qc, TM X W (mMk me) σc H Qc → TM X W me σc H Qc := by
  intro σc H Qc h
  obtain ⟨ρ, M, σ, Q, Xp, r, s, h, k, kx⟩ := h
  refine ⟨ρ, M, σ, _, Xp, r, s, h, fun ρ1 M1 H1 d v e1 r1 hd fr h1 => ?_, kx⟩
  have go : ∀ (c : Cell) (f : D), d = .fr f → cellOf f = some c → Q (.loc M1.length) (M1 ++ [c]) → Qc v H1 := by
    intro c f ed ec q
    obtain ⟨a, ev, ha⟩ := fr f ed
    obtain ⟨b, o, c', eb, hb, hc, rb, cb⟩ := hd.2 f ed
    subst ev
    cases eb
    rw [ec] at hc; cases hc
    have hn : ρ1.no a := rb.free del_same
    have xb : Ext ρ1 (del H1 a) (ρ1.add a) H1 := by
      refine ⟨List.prefix_append _ _, rfl, fun z hz n => ?_, fun z u hz nz => (Ext.undel (ρ := ρ1)).keep z u hz nz, fun z hz => (Ext.undel (ρ := ρ1)).dom z hz⟩
      · rcases List.mem_append.mp hz with q | q
        · exact absurd q n
        · rw [List.mem_singleton.mp q]; exact del_same
    have rn : Rel X.K (ρ1.add a) (M1 ++ [c]) H1 := rb.take xb (fun z hz => by rw [del_ne]; intro q; subst q; exact hn.1 hz) hn hb (cb.monoc rb xb)
    have xe : Ext ρ H (ρ1.add a) H1 := by
      refine ⟨e1.pre.trans (List.prefix_append _ _), e1.hd, fun z hz n => ?_, e1.keep, e1.dom⟩
      rcases List.mem_append.mp hz with q | q
      · exact e1.fresh z q n
      · rw [List.mem_singleton.mp q]; exact ha
    refine k (ρ1.add a) _ H1 (.loc M1.length) _ xe rn (RR.of (.loc (add_at r1 a))) (Frs.no fun _ q => by cases q) q
  rcases h1 with ⟨xs, ed, q⟩ | ⟨ks, ed, q⟩ | ⟨ed, q⟩
  · exact go _ _ ed rfl q
  · exact go _ _ ed rfl q
  · exact k ρ1 M1 H1 d v e1 r1 hd fr q
theorem se_mk {me : WE} (he : PE X e (TM X W me)) : PE X e (TM X W (mMk me)) := he.sub mk_sub
end
end
end Lay

set_option Elab.async false
set_option maxRecDepth 100000
set_option linter.all false
/-! Lay, part H: defs and their calls; no repr is under way where a def runs. -/
namespace Lay
open PySem L2 PyProof.Rows

/-- a def's promise, by what the small language says of it -/
def spD (mg : Str → Option Value) (K : PySem.W.Frag) (n : Nat) (S : List D → Mem → XP → Kd → Prop) : Sp := fun vs H Qc E =>
  vs.length = n ∧ ∃ ρ M ds Q Xp, Rel K ρ M H ∧ RDs ρ K H ds vs ∧ S ds M Xp Q ∧ Kt K ρ H Q Qc ∧ KX mg K ρ H Xp E

structure FnG (P : Program) (w : World) (K : PySem.W.Frag) (mg : Str → Option Value) (base : Heap) (k : Nat) (f : Addr) (fd : FuncData) (ps : List Str) (S : List D → Mem → XP → Kd → Prop) : Prop where
  run : ∀ (A : Around) (outer : List PySem.Env) (s : Shared) (H : Hp) (args : Args) (us : List Value) (vs : List V) (Q : VK) (E' : XK), A.guards = some [] → Room k A → Env0 P w K mg base A outer s H →
    BindsTo s fd args (ps.zip us) → Vals vs us → spD mg K ps.length S vs H Q E' → codeAny (model P w) A (.call (.ref f) args) (CR (L2.CX P w) outer P w H s Q E') s
theorem FnG.mono {P : Program} {w : World} {K : PySem.W.Frag} {mg : Str → Option Value} {base : Heap} {j k : Nat} {f : Addr} {fd : FuncData} {ps : List Str} {S : List D → Mem → XP → Kd → Prop} (F : FnG P w K mg base j f fd ps S) (h : j ≤ k) :
    FnG P w K mg base k f fd ps S := ⟨fun A outer s H args us vs Q E' hg hr => F.run A outer s H args us vs Q E' hg (hr.mono h)⟩

/-- how a def is called: its parameters, the ways with keywords (so many by place, these names, the order) -/
structure Sig where
  ps : List Str
  kw : List (Nat × List Str × List Nat)
/-- a def of the module that may be called -/
structure Callee (X : Cx) (k : Nat) (x : Str) (g : Sig) (S : List D → Mem → XP → Kd → Prop) : Prop where
  ex : ∃ (f : Addr) (fd : FuncData), FnG X.prog X.w X.K X.mg X.base k f fd g.ps S ∧ X.mg x = some (.ref f) ∧ PySem.W.keepIn X.K (.ref f) = true ∧
    (∀ (s : Shared) (us : List Value), us.length = g.ps.length → BindsTo s fd ⟨us, []⟩ (g.ps.zip us)) ∧
    (∀ n ks pm, (n, ks, pm) ∈ g.kw → pm.length = g.ps.length ∧ (∀ i ∈ pm, i < n + ks.length) ∧ ∀ (s : Shared) (us ws : List Value), us.length = n → ws.length = ks.length → BindsTo s fd ⟨us, ks.zip ws⟩ (g.ps.zip (pm.filterMap ((us ++ ws)[·]?))))

theorem filter_len {α : Type} {xs : List α} : ∀ {pm : List Nat}, (∀ i ∈ pm, i < xs.length) → (pm.filterMap (xs[·]?)).length = pm.length
  | [], _ => rfl
  | i :: pm, h => by
    have hi := h i List.mem_cons_self
    rw [List.filterMap_cons, List.getElem?_eq_getElem hi]
    simp [filter_len fun j hj => h j (List.mem_cons_of_mem _ hj)]
theorem perm_vals : ∀ {pm : List Nat} {xs : List V} {us : List Value}, Vals xs us → Vals (pm.filterMap (xs[·]?)) (pm.filterMap (us[·]?))
  | [], _, _, _ => .nil
  | i :: pm, xs, us, r => by
    rw [List.filterMap_cons, List.filterMap_cons]
    cases h : xs[i]? with
    | none =>
      rw [r.none_of h]
      exact perm_vals r
    | some x =>
      obtain ⟨u, e, q⟩ := r.get h
      rw [e]
      exact .cons q (perm_vals r)
theorem perm_rds {ρ : Rg} {K : PySem.W.Frag} {H : Hp} : ∀ {pm : List Nat} {ds : List D} {vs : List V}, RDs ρ K H ds vs → RDs ρ K H (pm.filterMap (ds[·]?)) (pm.filterMap (vs[·]?))
  | [], _, _, _ => .nil
  | i :: pm, ds, vs, r => by
    rw [List.filterMap_cons, List.filterMap_cons]
    cases h : ds[i]? with
    | none =>
      have : vs[i]? = none := by
        rw [List.getElem?_eq_none_iff] at h ⊢
        rw [← r.len]; exact h
      rw [this]
      exact perm_rds r
    | some x =>
      obtain ⟨u, e, q⟩ := r.get h
      rw [e]
      exact .cons q (perm_rds r)
section
variable {X : Cx} {W : WX} {k n : Nat} {x : Str} {p pos : Pos} {e : Expr} {es : List Expr} {kws : List Keyword} {g : Sig} {S : List D → Mem → XP → Kd → Prop} {ml mk : WL}

theorem run_g {f : Addr} {fd : FuncData} {ps : List Str} {pins : List (Addr × Obj)} {σc : L2.St} {H : Hp} {s : Shared} {Q : VK} {args : Args} {us : List Value} {vs : List V} (F : FnG X.prog X.w X.K X.mg X.base k f fd ps S) (hr : Room k X.A) (hg : X.A.guards = some [])
    (tk : Takes X W) (J : Inv X pins σc H s) (hb : BindsTo s fd args (ps.zip us)) (r : Vals vs us) (h : spD X.mg X.K ps.length S vs H Q fun c d H' => W c d σc H') :
    wpAny (model X.prog X.w) X.A (call (.ref f) args.pos args.kw) (EP X pins σc Q) X.xe s := by
  refine wpAny_call (codeAny_mono (F.run X.A X.stack s H args us vs Q _ hg hr J.env0 hb r h) fun rr s' q => ?_)
  match rr, q with
  | .error e, q => exact tk e s' (XE.of_call J (fun _ _ _ z => z) q)
  | .ok (.ret u), q => exact J.after q

/-- the keywords' values -/
theorem sk_nil : PK X [] (TML X W fun _ M _ Q => Q [] M) := by
  refine ⟨fun pos ps s σc H Qc J h => ?_⟩
  obtain ⟨ρ, M, σ, Q, Xp, r, sl, h, k, kx⟩ := h
  exact pk_nil.run pos ps s σc H Qc J (k ρ M H [] [] (Ext.refl _ _) r .nil h)
theorem sk_cons {nm : Option Str} {me : WE} {kp : Pos} (he : PE X e (TM X W me)) (hr : PK X kws (TML X W ml)) : PK X (⟨nm, e, kp⟩ :: kws) (TML X W (mCons me ml)) := by
  refine ⟨fun pos ps s σc H Qc J h => (pk_cons he hr).run pos ps s σc H Qc J ?_⟩
  obtain ⟨ρ, M, σ, Q, Xp, r, sl, h, k, kx⟩ := h
  exact ⟨ρ, M, σ, _, Xp, r, sl, h, fun ρ1 M1 H1 d v e1 r1 d1 _ h1 => ⟨ρ1, M1, σ, _, Xp, r1, sl.mono r e1, h1, fun ρ2 M2 H2 ds vs e2 r2 hds h2 => k ρ2 M2 H2 _ _ (e1.trans e2) r2 (.cons (r1.mono e2 d1.1) hds) h2, kx.later e1⟩, kx⟩

abbrev mCall (S : List D → Mem → XP → Kd → Prop) (pm : List Nat) (ml mk : WL) : WE := fun σ M Xp Q => ml σ M Xp fun ds M1 => mk σ M1 Xp fun zs M2 => S (perm pm (ds ++ zs)) M2 Xp Q
abbrev mNil : WL := fun _ M _ Q => Q [] M
/-- f(e, ..): all by place -/
theorem se_call (C : Callee X k x g S) (hr : Room k X.A) (hgd : X.A.guards = some []) (tk : Takes X W) (hg : Gl X x) (hdb : (x == ("__debug__" : Str)) = false) (ha : PA X (e :: es) (TML X W ml)) (hn : (e :: es).length = g.ps.length)
    (he : starEach (e :: es) X.env = (false, eval e X.env) :: starEach es X.env) (hpl : (backTo pos (starEach es X.env)).any (·.1) = false) :
    PE X (.Call (.Name x p) (e :: es) [] pos) (TM X W fun σ M Xp Q => ml σ M Xp fun ds M1 => ds.length = g.ps.length ∧ S ds M1 Xp Q) := by
  obtain ⟨f, fd, F, hm, hk, hb, _⟩ := C.ex
  refine ⟨fun ps s σc H Qc J h => ?_⟩
  obtain ⟨ρ, M, σ, Q, Xp, r, sl, h, kt, kx⟩ := h
  have h1 : TML X W ml σc H fun vs H1 => spD X.mg X.K g.ps.length S vs H1 Qc fun c d H' => W c d σc H' :=
    ⟨ρ, M, σ, _, Xp, r, sl, h, fun ρ1 M1 H1 ds vs e1 r1 hd q => ⟨by rw [← hd.len]; exact q.1, ρ1, M1, ds, Q, Xp, r1, hd, q.2, kt.later e1, kx.later e1⟩, kx⟩
  refine wpAny_Call_Name_kw (ld_glob J hg hm ?_ hdb)
  refine PySem.W.callWith_K (h₀ := X.base) J.ok.mod.kin hk (thn (ha.run pos ps s σc H _ J h1) fun us s1 ⟨vs, H1, J1, rv, q⟩ => ⟨J1.kIn, ?_⟩) he hpl
  exact run_g (args := ⟨us, []⟩) F hr hgd tk J1 (hb s1 us (by rw [← rv.length]; exact q.1)) rv q
theorem se_call0 (C : Callee X k x g S) (hr : Room k X.A) (hgd : X.A.guards = some []) (tk : Takes X W) (hg : Gl X x) (hdb : (x == ("__debug__" : Str)) = false) (hn : g.ps = []) :
    PE X (.Call (.Name x p) [] [] pos) (TM X W fun σ M Xp Q => S [] M Xp Q) := by
  obtain ⟨f, fd, F, hm, hk, hb, _⟩ := C.ex
  refine ⟨fun ps s σc H Qc J h => ?_⟩
  obtain ⟨ρ, M, σ, Q, Xp, r, sl, h, kt, kx⟩ := h
  refine wpAny_Call_Name_kw (ld_glob J hg hm ?_ hdb)
  refine PySem.W.callWith_K0 J.kIn hk ?_
  exact run_g (args := ⟨[], []⟩) (us := []) F hr hgd tk J (hb s [] (by rw [hn]; rfl)) .nil ⟨by rw [hn]; rfl, ρ, M, [], Q, Xp, r, .nil, h, kt, kx⟩
/-- f(.., k = v, ..) -/
theorem kw_end {f : Addr} {fd : FuncData} {ks : List Str} {pm : List Nat} {pins : List (Addr × Obj)} {σc : L2.St} {H : Hp} {s : Shared} {Qc : VK} {us ws : List Value} {vs zs : List V} (F : FnG X.prog X.w X.K X.mg X.base k f fd g.ps S) (hr : Room k X.A) (hgd : X.A.guards = some [])
    (tk : Takes X W) (J : Inv X pins σc H s) (l1 : us.length = n) (l2 : ws.length = ks.length) (hb : BindsTo s fd ⟨us, ks.zip ws⟩ (g.ps.zip (pm.filterMap ((us ++ ws)[·]?)))) (r1 : Vals vs us) (r2 : Vals zs ws)
    (h : spD X.mg X.K g.ps.length S (pm.filterMap ((vs ++ zs)[·]?)) H Qc fun c d H' => W c d σc H') : wpAny (model X.prog X.w) X.A (call (.ref f) us (ks.zip ws)) (EP X pins σc Qc) X.xe s :=
  run_g (args := ⟨us, ks.zip ws⟩) F hr hgd tk J hb (perm_vals (r1.append r2)) h
theorem se_callK (C : Callee X k x g S) (hr : Room k X.A) (hgd : X.A.guards = some []) (tk : Takes X W) (hg : Gl X x) (hdb : (x == ("__debug__" : Str)) = false) (ha : PA X (e :: es) (TML X W ml)) (hkw : PK X kws (TML X W mk)) {ks : List Str} {pm : List Nat}
    (hin : ((e :: es).length, ks, pm) ∈ g.kw) (hall : (backToKw pos (keywordEach kws X.env)).all (·.1.isSome) = true) (hks : (backToKw pos (keywordEach kws X.env)).filterMap (·.1) = ks)
    (he : starEach (e :: es) X.env = (false, eval e X.env) :: starEach es X.env) (hpl : ((backTo pos (starEach (e :: es) X.env)).any (·.1) || (backToKw pos (keywordEach kws X.env)).any (·.1.isNone)) = false) :
    PE X (.Call (.Name x p) (e :: es) kws pos) (TM X W fun σ M Xp Q => ml σ M Xp fun ds M1 => mk σ M1 Xp fun zs M2 => ds.length = (e :: es).length ∧ zs.length = ks.length ∧ S (perm pm (ds ++ zs)) M2 Xp Q) := by
  obtain ⟨f, fd, F, hm, hk, _, hb⟩ := C.ex
  obtain ⟨hp1, hp2, hb⟩ := hb _ _ _ hin
  refine ⟨fun ps s σc H Qc J h => ?_⟩
  obtain ⟨ρ, M, σ, Q, Xp, r, sl, h, kt, kx⟩ := h
  have h1 : TML X W ml σc H fun vs H1 => vs.length = vs.length ∧ TML X W mk σc H1 fun zs H2 => vs.length = (e :: es).length ∧ zs.length = ks.length ∧ spD X.mg X.K g.ps.length S (pm.filterMap ((vs ++ zs)[·]?)) H2 Qc fun c d H' => W c d σc H' :=
    ⟨ρ, M, σ, _, Xp, r, sl, h, fun ρ1 M1 H1 ds vs e1 r1 hd q => ⟨rfl, ρ1, M1, σ, _, Xp, r1, sl.mono r e1, q, fun ρ2 M2 H2 es zs e2 r2 hz q2 => by
      have hl : (pm.filterMap ((vs ++ zs)[·]?)).length = g.ps.length := by
        rw [filter_len, hp1]
        intro i hi
        rw [List.length_append, ← hd.len, ← hz.len, q2.1, q2.2.1]
        exact hp2 i hi
      exact ⟨by rw [← hd.len]; exact q2.1, by rw [← hz.len]; exact q2.2.1, hl, ρ2, M2, _, Q, Xp, r2, perm_rds ((r1.monos e2 hd).app hz), q2.2.2, kt.later (e1.trans e2), kx.later (e1.trans e2)⟩, kx.later e1⟩, kx⟩
  refine wpAny_Call_Name_kw (ld_glob J hg hm ?_ hdb)
  refine PySem.W.callWith_KW (h₀ := X.base) J.ok.mod.kin hk hall (thn (ha.run pos ps s σc H _ J h1) fun us s1 ⟨vs, H1, J1, rv, _, q⟩ => ?_) hpl he
  refine thn (hkw.run pos ps s1 σc H1 _ J1 q) fun ws s2 ⟨zs, H2, J2, rz, l1, l2, q2⟩ => ⟨J2.kIn, ?_⟩
  rw [hks]
  have m1 : us.length = (e :: es).length := by rw [← rv.length]; exact l1
  have m2 : ws.length = ks.length := by rw [← rz.length]; exact l2
  exact kw_end F hr hgd tk J2 m1 m2 (hb s2 us ws m1 m2) rv rz q2
theorem se_callK0 (C : Callee X k x g S) (hr : Room k X.A) (hgd : X.A.guards = some []) (tk : Takes X W) (hg : Gl X x) (hdb : (x == ("__debug__" : Str)) = false) (hkw : PK X kws (TML X W mk)) {ks : List Str} {pm : List Nat}
    (hin : (0, ks, pm) ∈ g.kw) (hall : (backToKw pos (keywordEach kws X.env)).all (·.1.isSome) = true) (hks : (backToKw pos (keywordEach kws X.env)).filterMap (·.1) = ks)
    (hpl : ((backTo pos (starEach [] X.env)).any (·.1) || (backToKw pos (keywordEach kws X.env)).any (·.1.isNone)) = false) :
    PE X (.Call (.Name x p) [] kws pos) (TM X W fun σ M Xp Q => mk σ M Xp fun zs M2 => zs.length = ks.length ∧ S (perm pm zs) M2 Xp Q) := by
  obtain ⟨f, fd, F, hm, hk, _, hb⟩ := C.ex
  obtain ⟨hp1, hp2, hb⟩ := hb _ _ _ hin
  refine ⟨fun ps s σc H Qc J h => ?_⟩
  obtain ⟨ρ, M, σ, Q, Xp, r, sl, h, kt, kx⟩ := h
  have h1 : TML X W mk σc H fun zs H2 => zs.length = ks.length ∧ spD X.mg X.K g.ps.length S (pm.filterMap (zs[·]?)) H2 Qc fun c d H' => W c d σc H' :=
    ⟨ρ, M, σ, _, Xp, r, sl, h, fun ρ2 M2 H2 es zs e2 r2 hz q2 => by
      have hl : (pm.filterMap (zs[·]?)).length = g.ps.length := by
        rw [filter_len, hp1]
        intro i hi
        rw [← hz.len, q2.1]
        have := hp2 i hi
        omega
      exact ⟨by rw [← hz.len]; exact q2.1, hl, ρ2, M2, _, Q, Xp, r2, perm_rds hz, q2.2, kt.later e2, kx.later e2⟩, kx⟩
  refine wpAny_Call_Name_kw (ld_glob J hg hm ?_ hdb)
  refine PySem.W.callWith_KW0 (h₀ := X.base) J.ok.mod.kin hk hall ?_ hpl
  refine thn (hkw.run pos ps s σc H _ J h1) fun ws s2 ⟨zs, H2, J2, rz, l2, q2⟩ => ⟨J2.kIn, ?_⟩
  rw [hks]
  have m2 : ws.length = ks.length := by rw [← rz.length]; exact l2
  exact kw_end (vs := []) F hr hgd tk J2 rfl m2 (hb s2 [] ws rfl m2) .nil rz q2
end
end Lay

set_option Elab.async false
set_option maxRecDepth 100000
set_option linter.all false
/-! Lay, part I: enumerate of anything that begins; what loops and comprehensions walk. -/
namespace Lay
open PySem L2 PyProof.Rows

set_option maxHeartbeats 1000000 in
theorem meets_en {v : Value} {o : Obj} {Hh : Heap → Prop} (B : Begins v o Hh) :
    Meets (Builtin.«enumerate.__new__» ⟨[.type "enumerate", v], []⟩) (fun _ R s => Hh s.heap ∧
      R (.ok (.ret (.ref (s.heap.push o).objs.size))) { s with heap := (s.heap.push o).push { cls := .type "enumerate", data := .fields #[.none, .bool false, .ref s.heap.objs.size, rawInt 0, .none, .none] } }) :=
  .of_wp fun prog w A R s h => by
    obtain ⟨hp, gs, dr, tk, os⟩ := s
    obtain ⟨h1, h2⟩ := h
    have hs := sub_enumerate
    have it : ∀ {A' : Around} {E : Value → Shared → Prop} {Q : Value → Shared → Prop}, Q (.ref hp.objs.size) ⟨hp.push o, gs, dr, tk, os⟩ → wpAny (model prog w) A' (pyIter v) Q E ⟨hp, gs, dr, tk, os⟩ :=
      fun q => B.iter prog w _ _ ⟨hp, gs, dr, tk, os⟩ _ h1 q
    wp_walk using it
    refine wpAny_stack_any fun st => wpAny_pure ?_
    split
    · rename_i c _ _ _ _ _
      cases (c == Value.type "enumerate") <;> (wp_walk using it; exact ⟨_, rfl, h2⟩)
    · wp_walk using it
      exact ⟨_, rfl, h2⟩
/-- enumerate(v): two new objects -/
theorem en_begins {prog : Program} {w : World} {A : Around} {E : Value → Shared → Prop} {s : Shared} {v : Value} {o : Obj} {Hh : Heap → Prop} {Q : Value → Shared → Prop} (B : Begins v o Hh) (h1 : Hh s.heap)
    (h : ∀ h', IsEnum h' (s.heap.objs.size + 1) s.heap.objs.size 0 .none → h'.get? s.heap.objs.size = some o → h'.objs.size = s.heap.objs.size + 2 →
      (∀ b u, s.heap.get? b = some u → h'.get? b = some u) → Q (.ref (s.heap.objs.size + 1)) { s with heap := h' }) : wpAny (model prog w) A (call (.type "enumerate") [v]) Q E s := by
  refine callType_new F.called_enumerate (by decide) (F.typeCall_enumerate_1 _) (F.newCall_enumerate_1 _) (fun obj => F.args_object_init_2 obj _) F.entry_enumerate_new (meets_en B) ⟨h1, ?_⟩
  have z1 : (s.heap.push o).objs.size = s.heap.objs.size + 1 := Heap.size_push ..
  show _ ∧ _
  rw [z1]
  have he := Heap.get?_push_size (s.heap.push o) (o := { cls := .type "enumerate", data := .fields #[.none, .bool false, .ref s.heap.objs.size, rawInt 0, .none, .none] }) rfl
  rw [z1] at he
  exact ⟨⟨_, he, rfl⟩, h _ he (Heap.get?_push_of_some _ (Heap.get?_push_size _ B.free)) (by rw [Heap.size_push, z1]) fun b u q => Heap.get?_push_of_some _ (Heap.get?_push_of_some _ q)⟩

/-- the tuple at a, each item in a new pair -/
def IteT (K : PySem.W.Frag) (a : Addr) : It :=
  ⟨fun i H => ∃ (xs : List V) (x : V), SqT K H a xs ∧ xs[i]? = some x, fun i H v H' => ∃ T x, v = .ref T ∧ H T = none ∧ H' = upd H T (.tup [.int (i : Nat), x]) ∧ ∀ xs, SqT K H a xs → xs[i]? = some x,
    fun i H => ∃ xs : List V, SqT K H a xs ∧ xs.length ≤ i⟩
theorem tup_ne {h : Heap} {a b : Addr} {its : Array Value} {o : Obj} (p : IsTup h a its) (e : h.get? b = some o) (c : o.cls ≠ .type "tuple") : a ≠ b := by
  rintro rfl
  obtain ⟨o', h1, h2, _⟩ := p
  rw [e] at h1; cases h1
  exact c h2
theorem en_endT {prog : Program} {w : World} {A : Around} {E : Value → Shared → Prop} {s : Shared} {e it t : Addr} {i : Nat} {items : Array Value} {old : Value} {Q : Option Value → Shared → Prop} (hh : A.handled = none)
    (he : IsEnum s.heap e it i old) (hit : s.heap.IsTupleIter it t i) (hl : s.heap.IsTuple t items) (hx : items[i]? = none)
    (hQ : ∀ h', Heap.ExtBut it s.heap h' → Q none { s with heap := h' }) : wpAny (model prog w) A (pyNext (.ref e)) Q E s := by
  have hy : s.TypeIs (.ref e) "enumerate" := ⟨_, he, rfl⟩
  unfold pyNext
  refine wpAny_bind (wpAny_attempt (wpAny_callSpecial?_slot (name := Str.ofString "__next__") hy F.slot_enumerate_next (wpAny_call_entry F.slot_enumerate_next hy F.entry_enumerate_next ?_ (F.args_enumerate_next_1 _))))
  show wpAny _ _ (field (.ref e) 2 >>= _) _ _ s
  refine wpAny_bind (wpAny_field he rfl (x := .ref it) rfl (wpAny_bind (wpAny_nextOf_tuple_end (by rw [Around.in1_handled]; exact hh) hit hl hx fun h' x e1 e2 => ?_)))
  obtain ⟨o, ho, hc⟩ := e2
  exact wpAny_bind (wpAny_isInstance (T := "StopIteration") (b := true) ⟨o, ho, hc⟩ isSubtype_stop (wpAny_pure (hQ _ e1)))
theorem turn_enumT {P : Program} {w : World} {K : PySem.W.Frag} {elts : List Expr} {kk : Nat} {tpos : Pos} (a e it : Addr) :
    Turn P w K (.Tuple elts kk tpos) (IteT K a) [e, it] e (fun i h => (∃ old, IsEnum h e it ((i : Nat) : Int) old) ∧ h.IsTupleIter it a i ∧ e ≠ it) where
  mem := by simp
  obj := fun i h st b hb => by
    obtain ⟨⟨old, he⟩, ⟨o, ho, hc, hd⟩, _⟩ := st
    rcases (show b = e ∨ b = it by simpa using hb) with rfl | rfl
    · exact ⟨_, he, fun v q => nomatch q⟩
    · exact ⟨o, ho, fun v q => by rw [hd] at q; cases q⟩
  keep := fun i h h' st k => let ⟨⟨old, he⟩, hi, hne⟩ := st; ⟨⟨old, k e (by simp) _ he⟩, hi.at fun o q => k it (by simp) o q, hne⟩
  item := by
    intro X hP hw hK hc i ps s σ H E J hf st hg
    subst hP hw hK
    obtain ⟨⟨old, he⟩, hit, hne⟩ := st
    obtain ⟨xs, x, hq, hx⟩ := hg
    obtain ⟨its, rv, p, hz⟩ := J.tuple hq
    obtain ⟨u, hu, ru⟩ := rv.get hx
    obtain ⟨oi, hoi, hci, hdi⟩ := id hit
    have hel : e < s.heap.objs.size := Heap.lt_size he
    have hil : it < s.heap.objs.size := Heap.lt_size hoi
    have hae : a ≠ e := tup_ne p he (by intro q; have q' : Value.type "enumerate" = Value.type "tuple" := q; injection q' with q2; exact absurd q2 (by decide))
    have hai : a ≠ it := tup_ne p hoi (by rw [hci]; decide)
    have Dr := Draws.tuple (prog := X.prog) (w := X.w) (A := X.A.in1) (by rw [Around.in1_handled]; exact J.ok.hd hc) it a hai its.toArray
    refine wpAny_pyNext_enum_itemD Dr he ⟨hit, p⟩ (show i < its.toArray.size by
      have := (List.getElem?_eq_some_iff.mp hu).1
      simpa using this) hne (by simp only [List.mem_cons, List.not_mem_nil, or_false, not_or]; exact ⟨hne, Ne.symm hae⟩) fun y h' tk hy ho hst hT hsz hk => ?_
    have ey : y = u := by
      have hy' : its.toArray[i]? = some y := hy
      rw [List.getElem?_toArray, hu] at hy'
      exact (Option.some.inj hy').symm
    subst ey
    refine ⟨_, rfl, wpAny_letOwnedTupleGo_enum (s := { s with heap := h', toks := tk + 1 }) ho fun h'' he' sb => ?_⟩
    have hT2 : h''.get? s.heap.objs.size = some { cls := .type "tuple", data := .seq #[.int i tk, y] } := (sb.2 _ (Nat.ne_of_gt hel)).trans hT
    have new : ObjOk X.prog X.w (upd H s.heap.objs.size (.tup [.int (i : Nat), x])) h'' s.heap.objs.size (.tup [.int (i : Nat), x]) :=
      ⟨by show 2 ≤ sizeLine; decide, [.int i tk, y], .cons ⟨_, rfl⟩ (.cons ru .nil), ⟨_, hT2, rfl, _, rfl⟩⟩
    have J1 : Inv X ps σ (upd H s.heap.objs.size (.tup [.int (i : Nat), x])) { s with heap := h'', toks := tk + 1 } :=
      J.turnedNew (ch := [e, it]) (fun b ob hb q => (sb.2 b (fun z => hb (by simp [z]))).trans (hk b ob (fun z => hb (by simp [z])) (fun z => hb (by simp [z])) q)) hf (Nat.le_refl _) new
    refine ⟨.ref s.heap.objs.size, _, J1, rfl, ⟨_, x, rfl, J.hok.fresh (Nat.le_refl _), rfl, fun ys hy => by rw [J.tuple_inj hy hq]; exact hx⟩, ⟨⟨y, ?_⟩, hst.1.at fun o q => (sb.2 it (Ne.symm hne)).trans q, hne⟩, fun b hb => ?_⟩
    · rw [show ((i + 1 : Nat) : Int) = (i : Int) + 1 by omega]; exact he'
    · have hb' : b < s.heap.objs.size := by
        rcases (show b = e ∨ b = it by simpa using hb) with rfl | rfl
        · exact hel
        · exact hil
      rw [upd_ne (Nat.ne_of_lt hb')]
      exact (hf b hb).1
  done := by
    intro X hP hw hK hc i ps s σ H E J hf st hg
    subst hP hw hK
    obtain ⟨⟨old, he⟩, hit, hne⟩ := st
    obtain ⟨xs, hq, hx⟩ := hg
    obtain ⟨its, rv, p, hz⟩ := J.tuple hq
    obtain ⟨oi, hoi, hci, hdi⟩ := id hit
    have hai : a ≠ it := tup_ne p hoi (by rw [hci]; decide)
    obtain ⟨f0, f1, f2, f3, f4, f5⟩ := hf it (by simp)
    have hl := rv.length
    -- behind the last item the tuple's iterator has ended
    refine en_endT (J.ok.hd hc) he hit p (by simp; omega) fun h' eb => ⟨rfl, J.turned (t' := s.toks) (fun b o hb q => eb b o hb q) f0 f1 f3 f4 f5⟩
  self := fun A i s Q E st h => let ⟨⟨_, he⟩, _⟩ := st; wpAny_pyIter_enum he h
end Lay

set_option Elab.async false
set_option maxRecDepth 100000
set_option linter.all false
/-! Lay, part J: walked things, comprehensions. -/
namespace Lay
open PySem L2 RZ PyProof.Rows

/-- a list (a tuple) that keeps its items while the guarded cells stay -/
def LSrc (K : PySem.W.Frag) (ρ : Rg) (H : Hp) (a : Addr) (ds : List D) (gd : Gd) : Prop :=
  ∀ (ρ' : Rg) (M' : Mem) (H' : Hp), Exw ρ H ρ' H' → Rel K ρ' M' H' → (∀ g ∈ gd, M'[g.1]? = some g.2) → ∃ vs, SqL K H' a vs ∧ RDs ρ' K H' ds vs
def TSrc (K : PySem.W.Frag) (ρ : Rg) (H : Hp) (a : Addr) (ds : List D) (gd : Gd) : Prop :=
  ∀ (ρ' : Rg) (M' : Mem) (H' : Hp), Exw ρ H ρ' H' → Rel K ρ' M' H' → (∀ g ∈ gd, M'[g.1]? = some g.2) → ∃ vs, SqT K H' a vs ∧ RDs ρ' K H' ds vs
/-- an iterator gives these items -/
structure Src (K : PySem.W.Frag) (ρ : Rg) (H : Hp) (J : It) (xs : List D) (gd : Gd) : Prop where
  go : ∀ (i : Nat) (ρ' : Rg) (M' : Mem) (H' : Hp), Exw ρ H ρ' H' → Rel K ρ' M' H' → (∀ g ∈ gd, M'[g.1]? = some g.2) → i < xs.length → J.go i H'
  stop : ∀ (ρ' : Rg) (M' : Mem) (H' : Hp), Exw ρ H ρ' H' → Rel K ρ' M' H' → (∀ g ∈ gd, M'[g.1]? = some g.2) → J.stop xs.length H'
  yld : ∀ (i : Nat) (ρ' : Rg) (M' : Mem) (H' : Hp) (v : V) (H2 : Hp), Exw ρ H ρ' H' → Rel K ρ' M' H' → (∀ g ∈ gd, M'[g.1]? = some g.2) → i < xs.length → J.yld i H' v H2 →
    ∃ d, xs[i]? = some d ∧ Ext ρ' H' ρ' H2 ∧ Rel K ρ' M' H2 ∧ RD ρ' K H2 d v

section
variable {K : PySem.W.Frag} {ρ : Rg} {M : Mem} {H : Hp} {a b : Addr} {ds es : List D} {gd gd2 : Gd}
theorem RDs.item {ρ' : Rg} {H' : Hp} {vs : List V} {i : Nat} (h : RDs ρ' K H' ds vs) (hi : i < ds.length) : ∃ d v, ds[i]? = some d ∧ vs[i]? = some v ∧ RD ρ' K H' d v := by
  obtain ⟨v, e, q⟩ := h.get (List.getElem?_eq_getElem hi)
  exact ⟨_, v, List.getElem?_eq_getElem hi, e, q⟩
theorem LSrc.src (h : LSrc K ρ H a ds gd) : Src K ρ H (Itl K a) ds gd where
  go := fun i ρ' M' H' x r g hi => by
    obtain ⟨vs, h1, h2⟩ := h ρ' M' H' x r g
    obtain ⟨d, v, _, e, _⟩ := h2.item hi
    exact ⟨vs, v, h1, e⟩
  stop := fun ρ' M' H' x r g => by
    obtain ⟨vs, h1, h2⟩ := h ρ' M' H' x r g
    exact ⟨vs, h1, by rw [h2.len]; exact Nat.le_refl _⟩
  yld := fun i ρ' M' H' v H2 x r g hi y => by
    obtain ⟨vs, h1, h2⟩ := h ρ' M' H' x r g
    obtain ⟨e1, e2⟩ := y
    subst e1
    obtain ⟨d, u, ed, eu, q⟩ := h2.item hi
    have := e2 vs h1
    rw [eu] at this; cases this
    exact ⟨d, ed, Ext.refl _ _, r, q⟩
theorem TSrc.src (h : TSrc K ρ H a ds gd) : Src K ρ H (Itt K a) ds gd where
  go := fun i ρ' M' H' x r g hi => by
    obtain ⟨vs, h1, h2⟩ := h ρ' M' H' x r g
    obtain ⟨d, v, _, e, _⟩ := h2.item hi
    exact ⟨vs, v, h1, e⟩
  stop := fun ρ' M' H' x r g => by
    obtain ⟨vs, h1, h2⟩ := h ρ' M' H' x r g
    exact ⟨vs, h1, by rw [h2.len]; exact Nat.le_refl _⟩
  yld := fun i ρ' M' H' v H2 x r g hi y => by
    obtain ⟨vs, h1, h2⟩ := h ρ' M' H' x r g
    obtain ⟨e1, e2⟩ := y
    subst e1
    obtain ⟨d, u, ed, eu, q⟩ := h2.item hi
    have := e2 vs h1
    rw [eu] at this; cases this
    exact ⟨d, ed, Ext.refl _ _, r, q⟩
theorem enum_len : ∀ (ds : List D) (n : Nat), (enumFrom n ds).length = ds.length
  | [], _ => rfl
  | d :: ds, n => by simp [enumFrom, enum_len ds]
theorem enum_get : ∀ (ds : List D) (n i : Nat), (enumFrom n ds)[i]? = (ds[i]?).map fun d => D.tup [.int ((n + i : Nat) : Int), d]
  | [], _, _ => rfl
  | d :: ds, n, 0 => by simp [enumFrom]
  | d :: ds, n, i + 1 => by
    show (enumFrom (n + 1) ds)[i]? = _
    rw [enum_get ds (n + 1) i]
    simp only [List.getElem?_cons_succ]
    congr 1
    funext d
    congr 3
    omega
/-- a new pair -/
theorem pair_new {ρ' : Rg} {M' : Mem} {H' : Hp} {T : Addr} {ds : List D} {vs : List V} (r : Rel K ρ' M' H') (hT : H' T = none) (h : RDs ρ' K H' ds vs) :
    Ext ρ' H' ρ' (upd H' T (.tup vs)) ∧ Rel K ρ' M' (upd H' T (.tup vs)) ∧ RD ρ' K (upd H' T (.tup vs)) (.tup ds) (.ref T) :=
  ⟨Ext.alloc hT, r.alloc hT, .tup (SqT.of upd_same) (r.monos (Ext.alloc hT) h)⟩
theorem LSrc.enum (h : LSrc K ρ H a ds gd) : Src K ρ H (Ite K a) (enumFrom 0 ds) gd where
  go := fun i ρ' M' H' x r g hi => by
    obtain ⟨vs, h1, h2⟩ := h ρ' M' H' x r g
    rw [enum_len] at hi
    obtain ⟨d, v, _, e, _⟩ := h2.item hi
    exact ⟨vs, v, h1, e⟩
  stop := fun ρ' M' H' x r g => by
    obtain ⟨vs, h1, h2⟩ := h ρ' M' H' x r g
    exact ⟨vs, h1, by rw [enum_len, h2.len]; exact Nat.le_refl _⟩
  yld := fun i ρ' M' H' v H2 x r g hi y => by
    obtain ⟨vs, h1, h2⟩ := h ρ' M' H' x r g
    rw [enum_len] at hi
    obtain ⟨d, u, ed, eu, q⟩ := h2.item hi
    obtain ⟨T, z, ev, hT, eH, hz⟩ := y
    have := hz vs h1
    rw [eu] at this; cases this
    subst ev eH
    obtain ⟨x1, r1, d1⟩ := pair_new r hT (.cons (.int (i : Nat)) (.cons q .nil))
    exact ⟨_, by rw [enum_get, ed, Nat.zero_add]; rfl, x1, r1, d1⟩
theorem TSrc.enum (h : TSrc K ρ H a ds gd) : Src K ρ H (IteT K a) (enumFrom 0 ds) gd where
  go := fun i ρ' M' H' x r g hi => by
    obtain ⟨vs, h1, h2⟩ := h ρ' M' H' x r g
    rw [enum_len] at hi
    obtain ⟨d, v, _, e, _⟩ := h2.item hi
    exact ⟨vs, v, h1, e⟩
  stop := fun ρ' M' H' x r g => by
    obtain ⟨vs, h1, h2⟩ := h ρ' M' H' x r g
    exact ⟨vs, h1, by rw [enum_len, h2.len]; exact Nat.le_refl _⟩
  yld := fun i ρ' M' H' v H2 x r g hi y => by
    obtain ⟨vs, h1, h2⟩ := h ρ' M' H' x r g
    rw [enum_len] at hi
    obtain ⟨d, u, ed, eu, q⟩ := h2.item hi
    obtain ⟨T, z, ev, hT, eH, hz⟩ := y
    have := hz vs h1
    rw [eu] at this; cases this
    subst ev eH
    obtain ⟨x1, r1, d1⟩ := pair_new r hT (.cons (.int (i : Nat)) (.cons q .nil))
    exact ⟨_, by rw [enum_get, ed, Nat.zero_add]; rfl, x1, r1, d1⟩
theorem zip_get : ∀ (ds es : List D) (i : Nat) (d e : D), ds[i]? = some d → es[i]? = some e → (zipD ds es)[i]? = some (.tup [d, e]) := by
  intro ds es i d e h1 h2
  unfold zipD
  simp [List.getElem?_zipWith, h1, h2]
theorem LSrc.zip (h : LSrc K ρ H a ds gd) (h' : LSrc K ρ H b es gd2) : Src K ρ H (Itz K a b) (zipD ds es) (gd ++ gd2) where
  go := fun i ρ' M' H' x r g hi => by
    have hi' : i < ds.length ∧ i < es.length := by unfold zipD at hi; rw [List.length_zipWith] at hi; omega
    obtain ⟨vs, h1, h2⟩ := h ρ' M' H' x r fun z hz => g z (List.mem_append_left _ hz)
    obtain ⟨ws, h3, h4⟩ := h' ρ' M' H' x r fun z hz => g z (List.mem_append_right _ hz)
    obtain ⟨d, v, _, e, _⟩ := h2.item hi'.1
    obtain ⟨d', v', _, e', _⟩ := h4.item hi'.2
    exact ⟨vs, ws, v, v', h1, h3, e, e'⟩
  stop := fun ρ' M' H' x r g => by
    obtain ⟨vs, h1, h2⟩ := h ρ' M' H' x r fun z hz => g z (List.mem_append_left _ hz)
    obtain ⟨ws, h3, h4⟩ := h' ρ' M' H' x r fun z hz => g z (List.mem_append_right _ hz)
    refine ⟨vs, ws, h1, h3, ?_⟩
    unfold zipD
    rw [List.length_zipWith, h2.len, h4.len]
    omega
  yld := fun i ρ' M' H' v H2 x r g hi y => by
    have hi' : i < ds.length ∧ i < es.length := by unfold zipD at hi; rw [List.length_zipWith] at hi; omega
    obtain ⟨vs, h1, h2⟩ := h ρ' M' H' x r fun z hz => g z (List.mem_append_left _ hz)
    obtain ⟨ws, h3, h4⟩ := h' ρ' M' H' x r fun z hz => g z (List.mem_append_right _ hz)
    obtain ⟨d, u, ed, eu, q⟩ := h2.item hi'.1
    obtain ⟨d', u', ed', eu', q'⟩ := h4.item hi'.2
    obtain ⟨T, z, z', ev, hT, eH, hz, hz'⟩ := y
    have t1 := hz vs h1
    have t2 := hz' ws h3
    rw [eu] at t1; cases t1
    rw [eu'] at t2; cases t2
    subst ev eH
    obtain ⟨x1, r1, d1⟩ := pair_new r hT (.cons q (.cons q' .nil))
    exact ⟨_, zip_get ds es i d d' ed ed', x1, r1, d1⟩
theorem TSrc.zip (h : TSrc K ρ H a ds gd) (h' : TSrc K ρ H b es gd2) : Src K ρ H (ItzT K a b) (zipD ds es) (gd ++ gd2) where
  go := fun i ρ' M' H' x r g hi => by
    have hi' : i < ds.length ∧ i < es.length := by unfold zipD at hi; rw [List.length_zipWith] at hi; omega
    obtain ⟨vs, h1, h2⟩ := h ρ' M' H' x r fun z hz => g z (List.mem_append_left _ hz)
    obtain ⟨ws, h3, h4⟩ := h' ρ' M' H' x r fun z hz => g z (List.mem_append_right _ hz)
    obtain ⟨d, v, _, e, _⟩ := h2.item hi'.1
    obtain ⟨d', v', _, e', _⟩ := h4.item hi'.2
    exact ⟨vs, ws, v, v', h1, h3, e, e'⟩
  stop := fun ρ' M' H' x r g => by
    obtain ⟨vs, h1, h2⟩ := h ρ' M' H' x r fun z hz => g z (List.mem_append_left _ hz)
    obtain ⟨ws, h3, h4⟩ := h' ρ' M' H' x r fun z hz => g z (List.mem_append_right _ hz)
    refine ⟨vs, ws, h1, h3, ?_⟩
    unfold zipD
    rw [List.length_zipWith, h2.len, h4.len]
    omega
  yld := fun i ρ' M' H' v H2 x r g hi y => by
    have hi' : i < ds.length ∧ i < es.length := by unfold zipD at hi; rw [List.length_zipWith] at hi; omega
    obtain ⟨vs, h1, h2⟩ := h ρ' M' H' x r fun z hz => g z (List.mem_append_left _ hz)
    obtain ⟨ws, h3, h4⟩ := h' ρ' M' H' x r fun z hz => g z (List.mem_append_right _ hz)
    obtain ⟨d, u, ed, eu, q⟩ := h2.item hi'.1
    obtain ⟨d', u', ed', eu', q'⟩ := h4.item hi'.2
    obtain ⟨T, z, z', ev, hT, eH, hz, hz'⟩ := y
    have t1 := hz vs h1
    have t2 := hz' ws h3
    rw [eu] at t1; cases t1
    rw [eu'] at t2; cases t2
    subst ev eH
    obtain ⟨x1, r1, d1⟩ := pair_new r hT (.cons q (.cons q' .nil))
    exact ⟨_, zip_get ds es i d d' ed ed', x1, r1, d1⟩
theorem rngD_get {lo : Int} {n : Nat} {c : Int} {i : Nat} (h : i < n) : (rngD lo n c)[i]? = some (.int (lo + (i : Int) * c)) := by
  unfold rngD
  simp [h]
theorem rngD_len {lo : Int} {n : Nat} {c : Int} : (rngD lo n c).length = n := by unfold rngD; simp
theorem src_rng {lo : Int} {n : Nat} : Src K ρ H (Itr lo n) (rngD lo n 1) [] where
  go := fun i _ _ _ _ _ _ hi => by rw [rngD_len] at hi; exact hi
  stop := fun _ _ _ _ _ _ => by rw [rngD_len]; exact Nat.le_refl n
  yld := fun i ρ' M' H' v H2 x r g hi y => by
    rw [rngD_len] at hi
    obtain ⟨e1, e2⟩ := y
    subst e1 e2
    exact ⟨_, rngD_get hi, Ext.refl _ _, r, by rw [Int.mul_one]; exact .int _⟩
theorem src_rngC {lo c : Int} {n : Nat} : Src K ρ H (Itc lo c n) (rngD lo n c) [] where
  go := fun i _ _ _ _ _ _ hi => by rw [rngD_len] at hi; exact hi
  stop := fun _ _ _ _ _ _ => by rw [rngD_len]; exact Nat.le_refl n
  yld := fun i ρ' M' H' v H2 x r g hi y => by
    rw [rngD_len] at hi
    obtain ⟨e1, e2⟩ := y
    subst e1 e2
    exact ⟨_, rngD_get hi, Ext.refl _ _, r, .int _⟩
theorem tsrc_tup {vs : List V} (r : Rel K ρ M H) (h1 : SqT K H a vs) (h2 : RDs ρ K H ds vs) : TSrc K ρ H a ds [] := fun ρ' M' H' x _ _ => ⟨vs, sqT_mono r.at x h1, r.monosW x h2⟩
/-- what a value gives to be walked -/
theorem it_src (r : Rel K ρ M H) {d : D} {v : V} {R : List D → Gd → Prop} (h : RD ρ K H d v) (t : itOf M d R) : ∃ a xs gd, v = .ref a ∧ R xs gd ∧ ((LSrc K ρ H a xs gd ∧ ∃ vs, SqL K H a vs) ∨ (TSrc K ρ H a xs gd ∧ ∃ vs, SqT K H a vs)) := by
  rcases t with ⟨xs, rfl, q⟩ | ⟨xs, rfl, q⟩ | ⟨xs, rfl, q⟩ | ⟨n, xs, rfl, e, q⟩
  · obtain ⟨a, vs, rfl, h1, h2⟩ := h.toTup
    exact ⟨a, xs, [], rfl, q, .inr ⟨tsrc_tup r h1 h2, vs, h1⟩⟩
  · cases h with
    | @fz a vs _ h1 h2 =>
      exact ⟨a, xs, [], rfl, q, .inl ⟨fun ρ' M' H' x _ _ => ⟨vs, (fz_mono r.at x h1).sq, r.monosW x h2⟩, vs, h1.sq⟩⟩
  · cases h with
    | @lst a vs _ h1 h2 h3 =>
      exact ⟨a, xs, [], rfl, q, .inl ⟨fun ρ' M' H' x _ _ => ⟨vs, SqL.of (x.keep _ _ h1 h2.1), r.monosW x h3⟩, vs, SqL.of h1⟩⟩
  · cases h with
    | @loc _ a h1 =>
      obtain ⟨o, e1, vs, e2, h2⟩ := r.cell _ _ _ e h1
      subst e2
      refine ⟨a, xs, [(n, .lst xs)], rfl, q, .inl ⟨fun ρ' M' H' x r' g => ?_, vs, SqL.of e1⟩⟩
      obtain ⟨o', e3, vs', e4, h3⟩ := r'.cell _ _ _ (g (n, .lst xs) (by simp)) (pre_get x.pre h1)
      subst e4
      exact ⟨vs', SqL.of e3, h3⟩
end

/-! ### for's and comprehensions' iterables -/
abbrev WI := Sl → Mem → XP → (List D → Gd → Mem → Prop) → Prop
def TMI (X : Cx) (W : WX) (m : WI) : TI := fun σc H R => ∃ ρ M σ Q Xp, Rel X.K ρ M H ∧ RS X.K ρ H σ σc ∧ m σ M Xp Q ∧
  (∀ (ρ' : Rg) (M' : Mem) (H' : Hp) (xs : List D) (gd : Gd) (J : It), Ext ρ H ρ' H' → Rel X.K ρ' M' H' → Src X.K ρ' H' J xs gd → Q xs gd M' → R J H') ∧ KX X.mg X.K ρ H Xp fun c d H' => W c d σc H'
theorem _root_.L2.PI.sub {X : Cx} {tg e : Expr} {t t' : TI} (h : PI X tg e t) (j : ∀ σ H Q, t' σ H Q → t σ H Q) : PI X tg e t' := ⟨fun a b c d z J q => h.run a b c d z J (j _ _ _ q)⟩
section
variable {X : Cx} {W : WX} {tg a b c e : Expr} {ma mb mc me : WE} {ml : WL} {p pos tpos : Pos} {elts : List Expr} {kk : Nat}
/-- a list or a tuple -/
theorem pi_seq {tl : TE} (hl : PE X e tl) : PI X tg e (fun σ H R => tl σ H fun x H1 => ∃ a, x = .ref a ∧ (((∃ xs, SqL X.K H1 a xs) ∧ R (Itl X.K a) H1) ∨ ((∃ xs, SqT X.K H1 a xs) ∧ R (Itt X.K a) H1))) := by
  refine ⟨fun ps s σc H R J h => thn (hl.run ps s σc H _ J h) fun v s1 ⟨x, H1, J1, r1, a, ex, q⟩ => ?_⟩
  subst ex
  cases r1
  have fresh : ∀ b ∈ [s1.heap.objs.size], FpOk X ps H1 b := fun b hb => by
    rw [List.mem_singleton.mp hb]
    exact J1.fpOk (Nat.le_refl _) (J1.hok.fresh (Nat.le_refl _))
  rcases q with ⟨⟨xs, hq⟩, q⟩ | ⟨⟨xs, hq⟩, q⟩
  · obtain ⟨its, rv, pl, hz⟩ := J1.list hq
    exact wpAny_pyIter_list pl.isList ⟨_, _, _, _, H1, rfl, J1.kept (t' := s1.toks) fun b o z => Heap.get?_push_of_some _ z, turn_list a _, ⟨_, Heap.get?_push_size _ rfl, rfl, rfl⟩, fresh, q⟩
  · obtain ⟨its, rv, pl, hz⟩ := J1.tuple hq
    exact wpAny_pyIter_tuple (show s1.heap.IsTuple a its.toArray from pl) ⟨_, _, _, _, H1, rfl, J1.kept (t' := s1.toks) fun b o z => Heap.get?_push_of_some _ z, turn_tuple a _, ⟨_, Heap.get?_push_size _ rfl, rfl, rfl⟩, fresh, q⟩
abbrev mSeq (me : WE) : WI := fun σ M Xp R => me σ M Xp fun d M1 => itOf M1 (shr d) fun xs g => R xs g M1
theorem si_seq (he : PE X e (TM X W me)) : PI X tg e (TMI X W (mSeq me)) := by
  refine (pi_seq he).sub fun σc H R h => ?_
  obtain ⟨ρ, M, σ, Q, Xp, r, s, h, k, kx⟩ := h
  refine ⟨ρ, M, σ, _, Xp, r, s, h, fun ρ1 M1 H1 d v e1 r1 d1 _ h1 => ?_, kx⟩
  obtain ⟨a, xs, gd, ev, q, hs⟩ := it_src r1 d1.1 h1
  refine ⟨a, ev, ?_⟩
  rcases hs with ⟨hs, vs, hv⟩ | ⟨hs, vs, hv⟩
  · exact .inl ⟨⟨vs, hv⟩, k ρ1 M1 H1 xs gd _ e1 r1 hs.src q⟩
  · exact .inr ⟨⟨vs, hv⟩, k ρ1 M1 H1 xs gd _ e1 r1 hs.src q⟩
abbrev mRng (n : Nat) (ml : WL) : WI := fun σ M Xp R => ml σ M Xp fun ds M1 => opRng n ds fun xs => R xs [] M1
theorem si_rng1 (hg : Gl X "range") (hm : X.mg "range" = none) (ha : PA X [a] (TML X W ml)) (hs : starEach [a] X.env = [(false, eval a X.env)]) : PI X tg (.Call (.Name "range" p) [a] [] pos) (TMI X W (mRng 1 ml)) := by
  refine (pi_range1 hg hm ha hs).sub fun σc H R h => ?_
  obtain ⟨ρ, M, σ, Q, Xp, r, sl, h, k, kx⟩ := h
  refine ⟨ρ, M, σ, _, Xp, r, sl, h, fun ρ1 M1 H1 ds vs e1 r1 hd q => ?_, kx⟩
  obtain ⟨j, rfl, z, q⟩ := q
  cases hd with
  | cons h1 h2 => cases h2; exact ⟨j, by rw [h1.toInt], z.1, z.2, k ρ1 M1 H1 _ _ _ e1 r1 src_rng q⟩
theorem si_rng2 (hg : Gl X "range") (hm : X.mg "range" = none) (ha : PA X [a, b] (TML X W ml)) (hs : starEach [a, b] X.env = [(false, eval a X.env), (false, eval b X.env)]) (hs2 : starEach [b] X.env = [(false, eval b X.env)]) :
    PI X tg (.Call (.Name "range" p) [a, b] [] pos) (TMI X W (mRng 2 ml)) := by
  refine (pi_range2 hg hm ha hs hs2).sub fun σc H R h => ?_
  obtain ⟨ρ, M, σ, Q, Xp, r, sl, h, k, kx⟩ := h
  refine ⟨ρ, M, σ, _, Xp, r, sl, h, fun ρ1 M1 H1 ds vs e1 r1 hd q => ?_, kx⟩
  obtain ⟨i, j, rfl, z1, z2, q⟩ := q
  cases hd with
  | cons h1 h2 =>
    cases h2 with
    | cons h3 h4 => cases h4; exact ⟨i, j, by rw [h1.toInt, h3.toInt], ⟨z1.1, z1.2, z2.1, z2.2⟩, k ρ1 M1 H1 _ _ _ e1 r1 src_rng q⟩
theorem si_rng3 (hg : Gl X "range") (hm : X.mg "range" = none) (ha : PA X [a, b, c] (TML X W ml)) (hs : starEach [a, b, c] X.env = (false, eval a X.env) :: starEach [b, c] X.env) (hpl : (backTo pos (starEach [b, c] X.env)).any (·.1) = false) :
    PI X tg (.Call (.Name "range" p) [a, b, c] [] pos) (TMI X W (mRng 3 ml)) := by
  refine (pi_range3 hg hm ha hs hpl).sub fun σc H R h => ?_
  obtain ⟨ρ, M, σ, Q, Xp, r, sl, h, k, kx⟩ := h
  refine ⟨ρ, M, σ, _, Xp, r, sl, h, fun ρ1 M1 H1 ds vs e1 r1 hd q => ?_, kx⟩
  obtain ⟨i, j, k', n, rfl, z, q⟩ := q
  cases hd with
  | cons h1 h2 =>
    cases h2 with
    | cons h3 h4 =>
      cases h4 with
      | cons h5 h6 => cases h6; exact ⟨i, j, k', n, by rw [h1.toInt, h3.toInt, h5.toInt], z, k ρ1 M1 H1 _ _ _ e1 r1 src_rngC q⟩
abbrev mEnm (ml : WL) : WI := fun σ M Xp R => ml σ M Xp fun ds M1 => ∃ d, ds = [d] ∧ itOf M1 d fun xs g => R (enumFrom 0 xs) g M1
/-- enumerate of a list or a tuple -/
theorem pi_enumA {ta : TA} (hg : Gl X "enumerate") (hm : X.mg "enumerate" = none) (ha : PA X [e] ta) (hs : starEach [e] X.env = [(false, eval e X.env)]) :
    PI X (.Tuple elts kk tpos) (.Call (.Name "enumerate" p) [e] [] pos) (fun σ H R => ta σ H fun vs H1 => ∃ a, vs = [.ref a] ∧ (((∃ xs, SqL X.K H1 a xs) ∧ R (Ite X.K a) H1) ∨ ((∃ xs, SqT X.K H1 a xs) ∧ R (IteT X.K a) H1))) := by
  refine ⟨fun ps s σc H R J h => Call_ (ld_blt J hg hm boot_enumerate (callWith_type1 (thn (ha.run pos ps s σc H _ J h) fun us s1 ⟨vs, H1, J1, rv, a, ex, q⟩ => ?_) hs rfl))⟩
  subst ex
  obtain ⟨u, rfl, ru⟩ := vals1 rv
  cases ru
  have fr : ∀ b ∈ [s1.heap.objs.size + 1, s1.heap.objs.size], FpOk X ps H1 b := fun b hb => by
    have hle : s1.heap.objs.size ≤ b := by
      rcases (show b = s1.heap.objs.size + 1 ∨ b = s1.heap.objs.size by simpa using hb) with rfl | rfl
      · exact Nat.le_add_right _ _
      · exact Nat.le_refl _
    exact J1.fpOk hle (J1.hok.fresh hle)
  rcases q with ⟨⟨xs, hq⟩, q⟩ | ⟨⟨xs, hq⟩, q⟩
  · obtain ⟨its, rw', pl, _⟩ := J1.list hq
    exact call_enumerate_list pl.isList fun h' he hit hsz hk => wpAny_pyIter_enum he ⟨_, _, _, _, H1, rfl, J1.kept (t' := s1.toks) hk, turn_enum a _ _, ⟨⟨.none, he⟩, hit, Nat.succ_ne_self _⟩, fr, q⟩
  · obtain ⟨its, rw', pl, _⟩ := J1.tuple hq
    exact en_begins (begins_tuple a its.toArray) pl fun h' he hit hsz hk => wpAny_pyIter_enum he ⟨_, _, _, _, H1, rfl, J1.kept (t' := s1.toks) hk, turn_enumT a _ _, ⟨⟨.none, he⟩, ⟨_, hit, rfl, rfl⟩, Nat.succ_ne_self _⟩, fr, q⟩
theorem si_enm (hg : Gl X "enumerate") (hm : X.mg "enumerate" = none) (ha : PA X [e] (TML X W ml)) (hs : starEach [e] X.env = [(false, eval e X.env)]) : PI X (.Tuple elts kk tpos) (.Call (.Name "enumerate" p) [e] [] pos) (TMI X W (mEnm ml)) := by
  refine (pi_enumA hg hm ha hs).sub fun σc H R h => ?_
  obtain ⟨ρ, M, σ, Q, Xp, r, sl, h, k, kx⟩ := h
  refine ⟨ρ, M, σ, _, Xp, r, sl, h, fun ρ1 M1 H1 ds vs e1 r1 hd q => ?_, kx⟩
  obtain ⟨d, rfl, q⟩ := q
  cases hd with
  | cons h1 h2 =>
    cases h2
    obtain ⟨b, xs, gd, ev, q, hsr⟩ := it_src r1 h1 q
    subst ev
    refine ⟨b, rfl, ?_⟩
    rcases hsr with ⟨hsr, hv⟩ | ⟨hsr, hv⟩
    · exact .inl ⟨hv, k ρ1 M1 H1 _ gd _ e1 r1 hsr.enum q⟩
    · exact .inr ⟨hv, k ρ1 M1 H1 _ gd _ e1 r1 hsr.enum q⟩
abbrev mZip (ml : WL) : WI := fun σ M Xp R => ml σ M Xp fun ds M1 => ∃ x y, ds = [x, y] ∧ itOf M1 x fun xs g => itOf M1 y fun ys g2 => isTup x = isTup y ∧ R (zipD xs ys) (g ++ g2) M1
theorem itOf_imp {M : Mem} {d : D} {R R' : List D → Gd → Prop} (h : ∀ xs g, R xs g → R' xs g) (t : itOf M d R) : itOf M d R' := by
  rcases t with ⟨xs, e, q⟩ | ⟨xs, e, q⟩ | ⟨xs, e, q⟩ | ⟨n, xs, e, e2, q⟩
  · exact .inl ⟨xs, e, h _ _ q⟩
  · exact .inr (.inl ⟨xs, e, h _ _ q⟩)
  · exact .inr (.inr (.inl ⟨xs, e, h _ _ q⟩))
  · exact .inr (.inr (.inr ⟨n, xs, e, e2, h _ _ q⟩))
/-- .. and of which kind -/
theorem it_src2 {K : PySem.W.Frag} {ρ : Rg} {M : Mem} {H : Hp} (r : Rel K ρ M H) {d : D} {v : V} {R : List D → Gd → Prop} (h : RD ρ K H d v) (t : itOf M d R) : ∃ a xs gd, v = .ref a ∧ R xs gd ∧
    ((isTup d = false ∧ LSrc K ρ H a xs gd ∧ ∃ vs, SqL K H a vs) ∨ (isTup d = true ∧ TSrc K ρ H a xs gd ∧ ∃ vs, SqT K H a vs)) := by
  rcases t with ⟨xs, rfl, q⟩ | t
  · obtain ⟨a, vs, rfl, h1, h2⟩ := h.toTup
    exact ⟨a, xs, [], rfl, q, .inr ⟨rfl, tsrc_tup r h1 h2, vs, h1⟩⟩
  · have hn : isTup d = false := by rcases t with ⟨xs, rfl, q⟩ | ⟨xs, rfl, q⟩ | ⟨n, xs, rfl, e2, q⟩ <;> rfl
    obtain ⟨a, xs, gd, e, q, hs⟩ := it_src r h (.inr t)
    rcases hs with hs | ⟨_, vs, hv⟩
    · exact ⟨a, xs, gd, e, q, .inl ⟨hn, hs⟩⟩
    · -- a list is no tuple: the value's own list serves
      rcases t with ⟨ys, rfl, q⟩ | ⟨ys, rfl, q⟩ | ⟨n, ys, rfl, e2, q⟩
      · cases h with
        | @fz b us _ h1 h2 => exact ⟨b, ys, [], rfl, q, .inl ⟨rfl, fun ρ' M' H' x _ _ => ⟨us, (fz_mono r.at x h1).sq, r.monosW x h2⟩, us, h1.sq⟩⟩
      · cases h with
        | @lst b us _ h1 h2 h3 => exact ⟨b, ys, [], rfl, q, .inl ⟨rfl, fun ρ' M' H' x _ _ => ⟨us, SqL.of (x.keep _ _ h1 h2.1), r.monosW x h3⟩, us, SqL.of h1⟩⟩
      · cases h with
        | @loc _ b h1 =>
          obtain ⟨o, e1, us, e3, h2⟩ := r.cell _ _ _ e2 h1
          subst e3
          refine ⟨b, ys, [(n, .lst ys)], rfl, q, .inl ⟨rfl, fun ρ' M' H' x r' g => ?_, us, SqL.of e1⟩⟩
          obtain ⟨o', e4, us', e5, h3⟩ := r'.cell _ _ _ (g (n, .lst ys) (by simp)) (pre_get x.pre h1)
          subst e5
          exact ⟨us', SqL.of e4, h3⟩
theorem si_zip (hg : Gl X "zip") (hm : X.mg "zip" = none) (ha : PA X [a, b] (TML X W ml)) (hs : starEach [a, b] X.env = (false, eval a X.env) :: starEach [b] X.env) (hpl : (backTo pos (starEach [b] X.env)).any (·.1) = false) :
    PI X (.Tuple elts kk tpos) (.Call (.Name "zip" p) [a, b] [] pos) (TMI X W (mZip ml)) := by
  refine (pi_zipA hg hm ha hs hpl).sub fun σc H R h => ?_
  obtain ⟨ρ, M, σ, Q, Xp, r, sl, h, k, kx⟩ := h
  refine ⟨ρ, M, σ, _, Xp, r, sl, h, fun ρ1 M1 H1 ds vs e1 r1 hd q => ?_, kx⟩
  obtain ⟨x, y, rfl, q⟩ := q
  cases hd with
  | cons h1 h2 =>
    cases h2 with
    | cons h3 h4 =>
      cases h4
      obtain ⟨a1, xs, g1, ev1, q, hs1⟩ := it_src2 r1 h1 q
      obtain ⟨a2, ys, g2, ev2, ⟨et, q⟩, hs2⟩ := it_src2 r1 h3 q
      subst ev1 ev2
      rcases hs1 with ⟨t1, hs1, vs1, hv1⟩ | ⟨t1, hs1, vs1, hv1⟩
      · rcases hs2 with ⟨t2, hs2, vs2, hv2⟩ | ⟨t2, hs2, vs2, hv2⟩
        · exact ⟨a1, a2, vs1, vs2, rfl, .inl ⟨hv1, hv2, k ρ1 M1 H1 _ _ _ e1 r1 (hs1.zip hs2) q⟩⟩
        · rw [t1, t2] at et; cases et
      · rcases hs2 with ⟨t2, hs2, vs2, hv2⟩ | ⟨t2, hs2, vs2, hv2⟩
        · rw [t1, t2] at et; cases et
        · exact ⟨a1, a2, vs1, vs2, rfl, .inr ⟨hv1, hv2, k ρ1 M1 H1 _ _ _ e1 r1 (hs1.zip hs2) q⟩⟩
end
end Lay

set_option Elab.async false
set_option maxRecDepth 100000
set_option linter.all false
/-! Lay, part K: targets, comprehensions. -/
namespace Lay
open PySem L2 RZ PyProof.Rows

/-! ### targets -/
theorem wipe_len (σ : L2.St) (own : List Nat) : (L2.wipe σ own).length = σ.length := L2.wipe_length σ own
theorem wipe_at (σ : L2.St) : ∀ (own : List Nat) (i : Nat), (L2.wipe σ own)[i]? = if i ∈ own then (σ[i]?).map (fun _ => none) else σ[i]?
  | [], i => by simp [L2.wipe]
  | v :: vs, i => by
    show ((L2.wipe σ vs).set v none)[i]? = _
    rw [List.getElem?_set, wipe_at σ vs i]
    by_cases h : v = i
    · subst h
      rw [wipe_len]
      by_cases hv : v < σ.length
      · simp [hv]
      · have : σ[v]? = none := List.getElem?_eq_none (by omega)
        simp [hv, this]
    · have h' : i ≠ v := fun e => h e.symm
      rw [if_neg h]
      by_cases hm : i ∈ vs
      · rw [if_pos hm, if_pos (List.mem_cons_of_mem _ hm)]
      · rw [if_neg hm, if_neg (by simp [h', hm])]
theorem wipe_set {σ : L2.St} {own : List Nat} {i : Nat} {v : Option V} (h : i ∈ own) : L2.wipe (σ.set i v) own = L2.wipe σ own := by
  refine List.ext_getElem? fun j => ?_
  rw [wipe_at, wipe_at]
  by_cases hj : j ∈ own
  · rw [if_pos hj, if_pos hj, List.getElem?_set]
    split
    · rename_i e
      subst e
      split
      · rename_i h2
        simp [h2]
      · rename_i h2
        have : σ[i]? = none := List.getElem?_eq_none (by omega)
        simp [this]
    · rfl
  · rw [if_neg hj, if_neg hj, List.getElem?_set_ne (fun e : i = j => hj (by rw [← e]; exact h))]
theorem wipe_idem {σ : L2.St} {own : List Nat} : L2.wipe (L2.wipe σ own) own = L2.wipe σ own := by
  refine List.ext_getElem? fun j => ?_
  rw [wipe_at, wipe_at]
  by_cases hj : j ∈ own
  · rw [if_pos hj, if_pos hj]
    cases σ[j]? <;> rfl
  · rw [if_neg hj, if_neg hj]
theorem wipeD_cons {σ : Sl} {v : Nat} {vs : List Nat} : wipeD σ (v :: vs) = (wipeD σ vs).set v none := rfl
section
variable {K : PySem.W.Frag} {ρ : Rg} {H : Hp}
theorem RS.set {σ : Sl} {σc : L2.St} {i : Nat} {d : D} {v : V} (h : RS K ρ H σ σc) (q : RD ρ K H d v) : RS K ρ H (σ.set i (some d)) (σc.set i (some v)) := by
  refine ⟨by simp [h.1], fun j e ej => ?_⟩
  rw [List.getElem?_set] at ej ⊢
  split at ej
  · rename_i hij
    subst hij
    split at ej
    · rename_i hl
      simp at ej
      subst ej
      rw [if_pos rfl, if_pos (by rw [← h.1]; exact hl)]
      exact ⟨v, rfl, q⟩
    · cases ej
  · rename_i hij
    rw [if_neg hij]
    exact h.2 j e ej
theorem RS.setN {σ : Sl} {σc : L2.St} {i : Nat} {o : Option V} (h : RS K ρ H σ σc) : RS K ρ H (σ.set i none) (σc.set i o) := by
  refine ⟨by simp [h.1], fun j e ej => ?_⟩
  rw [List.getElem?_set] at ej ⊢
  split at ej
  · split at ej <;> cases ej
  · rename_i hij
    rw [if_neg hij]
    exact h.2 j e ej
theorem RS.wipe {σ : Sl} {σc : L2.St} (h : RS K ρ H σ σc) : ∀ own : List Nat, RS K ρ H (wipeD σ own) (L2.wipe σc own)
  | [] => h
  | v :: vs => (h.wipe vs).setN
end
mutual
def tgIn : Tg → List Nat → Bool
  | .nm i, own => own.contains i
  | .tup ts, own => tgsIn ts own
def tgsIn : Tgs → List Nat → Bool
  | .nil, _ => true
  | .cons t ts, own => tgIn t own && tgsIn ts own
end
def Kg (K : PySem.W.Frag) (ρ : Rg) (H : Hp) (σc : L2.St) (fit : List Nat → Bool) (Q : Sl → Prop) (Qc : L2.St → Hp → Prop) : Prop :=
  ∀ (σ' : Sl) (σc' : L2.St), RS K ρ H σ' σc' → (∀ own, fit own = true → L2.wipe σc' own = L2.wipe σc own) → Q σ' → Qc σc' H
def TMG (X : Cx) (t : Tg) : TG := fun v σc H Qc => ∃ ρ σ d Q, RS X.K ρ H σ σc ∧ RD ρ X.K H (shr d) v ∧ wpTg t d σ Q ∧ Kg X.K ρ H σc (tgIn t) Q Qc
def TMGs (X : Cx) (t : Tgs) : TGs := fun vs σc H Qc => ∃ ρ σ ds Q, RS X.K ρ H σ σc ∧ RDs ρ X.K H ds vs ∧ wpTgs t ds σ Q ∧ Kg X.K ρ H σc (tgsIn t) Q Qc
theorem _root_.L2.PG.sub {X : Cx} {e : Expr} {t t' : TG} (h : PG X e t) (j : ∀ v σ H Q, t' v σ H Q → t v σ H Q) : PG X e t' := ⟨fun a b c d v u Q J r q => h.run a b c d v u Q J r (j _ _ _ _ q)⟩
theorem _root_.L2.PGs.sub {X : Cx} {e : List Expr} {t t' : TGs} (h : PGs X e t) (j : ∀ v σ H Q, t' v σ H Q → t v σ H Q) : PGs X e t' := ⟨fun a b c d v u Q J r q => h.run a b c d v u Q J r (j _ _ _ _ q)⟩
section
variable {X : Cx} {pos : Pos}
theorem sg_nm {i : Nat} {x : Str} (hN : X.N.Nodup) (hi : X.N[i]? = some x) (hx : Loc X.env.scope x) (hf : X.fn x = true ∨ X.env.scope.names.lookup x = some .local) : PG X (.Name x pos) (TMG X (.nm i)) := by
  refine (pg_name hN hi hx hf).sub fun v σc H Qc h => ?_
  obtain ⟨ρ, σ, d, Q, s, hd, h, k⟩ := h
  exact k _ _ (s.set hd) (fun own ho => wipe_set (by simpa [tgIn] using ho)) h
theorem sgs_nil : PGs X [] (TMGs X .nil) := by
  refine pgs_nil.sub fun v σc H Qc h => ?_
  obtain ⟨ρ, σ, ds, Q, s, hd, ⟨rfl, h⟩, k⟩ := h
  cases hd
  exact ⟨rfl, k _ _ s (fun _ _ => rfl) h⟩
theorem sgs_cons {e : Expr} {es : List Expr} {t : Tg} {ts : Tgs} (h1 : PG X e (TMG X t)) (h2 : PGs X es (TMGs X ts))
    (hs : (assignEach (e :: es) X.env).map (·.2) = assign e X.env :: (assignEach es X.env).map (·.2)) : PGs X (e :: es) (TMGs X (.cons t ts)) := by
  refine (pgs_cons h1 h2 hs).sub fun v σc H Qc h => ?_
  obtain ⟨ρ, σ, ds, Q, s, hd, ⟨y, ys, rfl, h⟩, k⟩ := h
  cases hd with
  | cons d1 d2 =>
    have hy : shr y = y := by cases y <;> first | rfl | (cases d1)
    exact ⟨_, _, rfl, ρ, σ, y, _, s, by rw [hy]; exact d1, h, fun σ1 σc1 s1 w1 q1 => ⟨ρ, σ1, ys, Q, s1, d2, q1, fun σ2 σc2 s2 w2 q2 => k σ2 σc2 s2 (fun own ho => by
      simp only [tgsIn, Bool.and_eq_true] at ho
      rw [w2 own ho.2, w1 own ho.1]) q2⟩⟩
def Tgs.len : Tgs → Nat
  | .nil => 0
  | .cons _ ts => ts.len + 1
theorem wpTgs_len : ∀ {ts : Tgs} {ds : List D} {σ : Sl} {Q : Sl → Prop}, wpTgs ts ds σ Q → ds.length = ts.len
  | .nil, _, _, _, h => by rw [h.1]; rfl
  | .cons t ts, ds, σ, Q, h => by
    obtain ⟨y, ys, rfl, h⟩ := h
    have aux : ∀ {t : Tg} {d : D} {σ : Sl} {Q : Sl → Prop}, wpTg t d σ Q → ∃ σ', Q σ' := by
      intro t
      refine Tg.rec (motive_1 := fun t => ∀ {d : D} {σ : Sl} {Q : Sl → Prop}, wpTg t d σ Q → ∃ σ', Q σ') (motive_2 := fun ts => ∀ {d : List D} {σ : Sl} {Q : Sl → Prop}, wpTgs ts d σ Q → ∃ σ', Q σ') ?_ ?_ ?_ ?_ t
      · intro i d σ Q h; exact ⟨_, h⟩
      · intro ts ih d σ Q h
        obtain ⟨xs, _, h⟩ := h
        exact ih h
      · intro d σ Q h; exact ⟨_, h.2⟩
      · intro t ts i1 i2 d σ Q h
        obtain ⟨y, ys, rfl, h⟩ := h
        obtain ⟨σ', h⟩ := i1 h
        exact i2 h
    obtain ⟨σ', h⟩ := aux h
    simp [Tgs.len, wpTgs_len h]
theorem sg_tup {es : List Expr} {k : Nat} {ts : Tgs} (hc : X.calm = true) (h : PGs X es (TMGs X ts)) (hn : (assignEach es X.env).length = ts.len) (hst : (assignEach es X.env).findIdx? (·.1) = none) : PG X (.Tuple es k pos) (TMG X (.tup ts)) := by
  have u : PG X (.Tuple es k pos) (fun v σ H Q => gTup X.K ts.len (TMGs X ts) v σ H Q ∨ gUnl X.K ts.len (TMGs X ts) v σ H Q) :=
    ⟨fun pins s σ H v u Q I r hw => hw.elim ((pg_tup hc h hn hst).run pins s σ H v u Q I r) ((pg_unl hc h hn hst).run pins s σ H v u Q I r)⟩
  refine u.sub fun v σc H Qc h => ?_
  obtain ⟨ρ, σ, d, Q, s, hd, ⟨xs, e, h⟩, k⟩ := h
  unfold unT at e
  split at e
  · cases e
    obtain ⟨a, vs, rfl, h1, h2⟩ := RD.toTup hd
    exact .inl ⟨a, vs, rfl, h1, by rw [← h2.len]; exact wpTgs_len h, ρ, σ, xs, Q, s, h2, h, k⟩
  · cases e
    cases hd with
    | lst h1 _ h2 => exact .inr ⟨_, _, rfl, SqL.of h1, by rw [← h2.len]; exact wpTgs_len h, ρ, σ, xs, Q, s, h2, h, k⟩
  · cases e
end

/-! ### a list that is hidden while it grows -/
section
variable {K : PySem.W.Frag} {ρ ρ' : Rg} {M : Mem} {H H' : Hp} {p : Addr}
theorem hide_no {a : Addr} (h : ρ.no a) (e : a ≠ p) : (ρ.hide p).no a := ⟨h.1, by
  show a ∉ p :: ρ.h
  rw [List.mem_cons, not_or]; exact ⟨e, h.2⟩⟩
theorem unhide_no {a : Addr} (h : (ρ.hide p).no a) : ρ.no a ∧ a ≠ p := by
  have h2 : a ∉ p :: ρ.h := h.2
  rw [List.mem_cons, not_or] at h2
  exact ⟨⟨h.1, h2.2⟩, h2.1⟩
theorem rd_undel {a : Addr} {u : HO} (h : Rd (del H p) a u) : Rd H a u := by
  rcases h with h | ⟨o, h⟩
  · exact .inl ((Ext.undel (ρ := ⟨[], []⟩)).keep _ _ h (by simp))
  · exact .inr ⟨o, (Ext.undel (ρ := ⟨[], []⟩)).keep _ _ h (by simp)⟩
theorem ne_of_del {a : Addr} {o : HO} (h : del H p a = some o) : a ≠ p ∧ H a = some o := by
  by_cases e : a = p
  · subst e; rw [del_same] at h; cases h
  · rw [del_ne e] at h; exact ⟨e, h⟩
theorem rd_del {a : Addr} {u o : HO} (hp : H p = some o) (ho : IsCell o) (hu : ¬ IsCell u) (h : Rd H a u) : Rd (del H p) a u := by
  have ne : a ≠ p := by
    rintro rfl
    rcases h with h | ⟨w, h⟩
    · rw [hp] at h; cases h; exact hu ho
    · rw [hp] at h; cases h; exact ho
  rcases h with h | ⟨w, h⟩
  · exact .inl (by rw [del_ne ne]; exact h)
  · exact .inr ⟨w, by rw [del_ne ne]; exact h⟩
mutual
theorem RD.hide : ∀ (d : D) (v : V), RD ρ K (del H p) d v → RD (ρ.hide p) K H d v
  | .non, _, h => by cases h; exact .non
  | .bl _, _, h => by cases h; exact .bl _
  | .int _, _, h => by cases h; exact .int _
  | .str _, _, h => by cases h; exact .str _
  | .ty _, _, h => by cases h; exact .ty _
  | .tup ds, _, h => by
    cases h with
    | tup h1 h2 => exact .tup (h1.imp rd_undel id) (RDs.hide ds _ h2)
  | .lst ds, _, h => by
    cases h with
    | lst h1 h2 h3 => exact .lst (ne_of_del h1).2 (hide_no h2 (ne_of_del h1).1) (RDs.hide ds _ h3)
  | .fz ds, _, h => by
    cases h with
    | fz h1 h2 => exact .fz (h1.imp (fun ⟨o, q⟩ => ⟨o, (ne_of_del q).2⟩) id) (RDs.hide ds _ h2)
  | .dct ds, _, h => by
    cases h with
    | dct h1 h2 h3 => exact .dct (ne_of_del h1).2 (hide_no h2 (ne_of_del h1).1) (RDk.hide ds _ h3)
  | .loc n, _, h => by
    cases h with
    | loc h1 => exact .loc h1
  | .fr d, v, h => by cases h
theorem RDs.hide : ∀ (d : List D) (v : List V), RDs ρ K (del H p) d v → RDs (ρ.hide p) K H d v
  | [], _, h => by cases h; exact .nil
  | d :: ds, _, h => by
    cases h with
    | cons h1 h2 => exact .cons (RD.hide d _ h1) (RDs.hide ds _ h2)
theorem RDk.hide : ∀ (d : List (Key × D)) (v : List (Key × V)), RDk ρ K (del H p) d v → RDk (ρ.hide p) K H d v
  | [], _, h => by cases h; exact .nil
  | (k, d) :: ds, _, h => by
    cases h with
    | cons h1 h2 => exact .cons (RD.hide d _ h1) (RDk.hide ds _ h2)
end
mutual
theorem RD.unhide {o : HO} (hp : H p = some o) (ho : IsCell o) : ∀ (d : D) (v : V), RD (ρ.hide p) K H d v → RD ρ K (del H p) d v
  | .non, _, h => by cases h; exact .non
  | .bl _, _, h => by cases h; exact .bl _
  | .int _, _, h => by cases h; exact .int _
  | .str _, _, h => by cases h; exact .str _
  | .ty _, _, h => by cases h; exact .ty _
  | .tup ds, _, h => by
    cases h with
    | tup h1 h2 => exact .tup (h1.imp (rd_del hp ho fun z => z) id) (RDs.unhide hp ho ds _ h2)
  | .lst ds, _, h => by
    cases h with
    | lst h1 h2 h3 => exact .lst (by rw [del_ne (unhide_no h2).2]; exact h1) (unhide_no h2).1 (RDs.unhide hp ho ds _ h3)
  | .fz ds, _, h => by
    cases h with
    | @fz a xs _ h1 h2 =>
      refine .fz (h1.imp (fun ⟨w, q⟩ => ⟨w, ?_⟩) id) (RDs.unhide hp ho ds _ h2)
      rw [del_ne]
      · exact q
      · rintro rfl; rw [hp] at q; cases q; exact ho
  | .dct ds, _, h => by
    cases h with
    | dct h1 h2 h3 => exact .dct (by rw [del_ne (unhide_no h2).2]; exact h1) (unhide_no h2).1 (RDk.unhide hp ho ds _ h3)
  | .loc n, _, h => by
    cases h with
    | loc h1 => exact .loc h1
  | .fr d, v, h => by cases h
theorem RDs.unhide {o : HO} (hp : H p = some o) (ho : IsCell o) : ∀ (d : List D) (v : List V), RDs (ρ.hide p) K H d v → RDs ρ K (del H p) d v
  | [], _, h => by cases h; exact .nil
  | d :: ds, _, h => by
    cases h with
    | cons h1 h2 => exact .cons (RD.unhide hp ho d _ h1) (RDs.unhide hp ho ds _ h2)
theorem RDk.unhide {o : HO} (hp : H p = some o) (ho : IsCell o) : ∀ (d : List (Key × D)) (v : List (Key × V)), RDk (ρ.hide p) K H d v → RDk ρ K (del H p) d v
  | [], _, h => by cases h; exact .nil
  | (k, d) :: ds, _, h => by
    cases h with
    | cons h1 h2 => exact .cons (RD.unhide hp ho d _ h1) (RDk.unhide hp ho ds _ h2)
end
theorem RC.hide {c : Cell} {o : HO} (h : RC ρ K (del H p) c o) : RC (ρ.hide p) K H c o := by
  cases c with
  | lst ds => obtain ⟨xs, e, q⟩ := h; exact ⟨xs, e, RDs.hide _ _ q⟩
  | dic ds => obtain ⟨xs, e, q⟩ := h; exact ⟨xs, e, RDk.hide _ _ q⟩
theorem RC.unhide {c : Cell} {o w : HO} (hp : H p = some w) (hw : IsCell w) (h : RC (ρ.hide p) K H c o) : RC ρ K (del H p) c o := by
  cases c with
  | lst ds => obtain ⟨xs, e, q⟩ := h; exact ⟨xs, e, RDs.unhide hp hw _ _ q⟩
  | dic ds => obtain ⟨xs, e, q⟩ := h; exact ⟨xs, e, RDk.unhide hp hw _ _ q⟩
theorem Rel.hide {o : HO} (r : Rel K ρ M (del H p)) (hp : H p = some o) (ho : IsCell o) : Rel K (ρ.hide p) M H := by
  have hn := r.free (p := p) del_same
  refine ⟨r.nd, r.len, fun n c a e1 e2 => ?_, fun a ha => ?_, fun a ha => ?_⟩
  · obtain ⟨u, e3, q⟩ := r.cell n c a e1 e2
    exact ⟨u, (ne_of_del e3).2, q.hide⟩
  · rcases List.mem_cons.mp (show a ∈ p :: ρ.h from ha) with z | z
    · subst z; exact ⟨o, hp, ho⟩
    · obtain ⟨u, e3, q⟩ := r.hid a z
      exact ⟨u, (ne_of_del e3).2, q⟩
  · show a ∉ p :: ρ.h
    rw [List.mem_cons, not_or]
    exact ⟨fun e => hn.1 (e ▸ ha), r.apart a ha⟩
theorem Rel.unhide {o : HO} (r : Rel K (ρ.hide p) M H) (hp : H p = some o) (ho : IsCell o) (hh : p ∉ ρ.h) : Rel K ρ M (del H p) := by
  have hl : ∀ a ∈ ρ.l, a ≠ p := fun a ha e => r.apart a ha (by rw [e]; exact List.mem_cons_self)
  refine ⟨r.nd, r.len, fun n c a e1 e2 => ?_, fun a ha => ?_, fun a ha => ?_⟩
  · obtain ⟨u, e3, q⟩ := r.cell n c a e1 e2
    exact ⟨u, by rw [del_ne (hl a (List.mem_of_getElem? e2))]; exact e3, q.unhide hp ho⟩
  · obtain ⟨u, e3, q⟩ := r.hid a (List.mem_cons_of_mem _ ha)
    exact ⟨u, by rw [del_ne (fun e => hh (by rw [← e]; exact ha))]; exact e3, q⟩
  · exact fun z => r.apart a ha (List.mem_cons_of_mem _ z)
/-- the hidden list gets another value -/
theorem Rel.grow {o u : HO} (r : Rel K (ρ.hide p) M H) (hp : H p = some o) (ho : IsCell o) (hu : IsCell u) (hh : p ∉ ρ.h) : Rel K (ρ.hide p) M (upd H p u) := by
  have r1 := r.unhide hp ho hh
  have e : del (upd H p u) p = del H p := by
    funext b
    by_cases e : b = p
    · subst e; rw [del_same, del_same]
    · rw [del_ne e, del_ne e, upd_ne e]
  rw [← e] at r1
  exact r1.hide upd_same hu
theorem RDs.grow {o u : HO} {ds : List D} {vs : List V} (hp : H p = some o) (ho : IsCell o) (h : RDs (ρ.hide p) K H ds vs) : RDs (ρ.hide p) K (upd H p u) ds vs := by
  have r1 := RDs.unhide hp ho ds vs h
  have e : del (upd H p u) p = del H p := by
    funext b
    by_cases e : b = p
    · subst e; rw [del_same, del_same]
    · rw [del_ne e, del_ne e, upd_ne e]
  rw [← e] at r1
  exact RDs.hide ds vs r1
end

/-! ### comprehensions -/
abbrev WT := Sl → Mem → XP → (Bool → Mem → Prop) → Prop
def TMK (X : Cx) (W : WX) (m : WT) : TT := fun σc H Qc => ∃ ρ M σ Q Xp, Rel X.K ρ M H ∧ RS X.K ρ H σ σc ∧ m σ M Xp Q ∧
  (∀ (ρ' : Rg) (M' : Mem) (H' : Hp) (b : Bool), Ext ρ H ρ' H' → Rel X.K ρ' M' H' → Q b M' → Qc b H') ∧ KX X.mg X.K ρ H Xp fun c d H' => W c d σc H'
theorem _root_.L2.PTs.sub {X : Cx} {e : List Expr} {t t' : TT} (h : PTs X e t) (i : ∀ σ H Q, t' σ H Q → t σ H Q) : PTs X e t' := ⟨fun a b c d e J q => h.run a b c d e J (i _ _ _ q)⟩
section
variable {X : Cx} {W : WX} {c e tg iter : Expr} {mc me : WE} {pos : Pos}
theorem sts_nil : PTs X [] (TMK X W fun _ M _ Q => Q true M) := by
  refine pts_nil.sub fun σc H Qc h => ?_
  obtain ⟨ρ, M, σ, Q, Xp, r, s, h, k, kx⟩ := h
  exact k ρ M H true (Ext.refl _ _) r h
theorem sts_one (h : PT X c (TMT X W mc)) : PTs X [c] (TMK X W fun σ M Xp Q => mc σ M Xp fun d M1 => truth (shr d) M1 fun b => Q b M1) := by
  refine (pts_one h).sub fun σc H Qc h => ?_
  obtain ⟨ρ, M, σ, Q, Xp, r, s, h, k, kx⟩ := h
  exact ⟨ρ, M, σ, _, Xp, r, s, h, fun ρ1 M1 H1 d v e1 r1 _ q => truth_mono (fun b q => k ρ1 M1 H1 b e1 r1 q) q, kx⟩
abbrev mLc (t : Tg) (mi : WI) (mk : WT) (me : WE) (own : List Nat) : WE := fun σ M Xp Q => mi σ M Xp fun xs gd M1 => ∃ I : Nat → List D → Mem → Prop, I 0 [] M1 ∧ ∀ i acc M2, I i acc M2 →
      (∀ g ∈ gd, M2[g.1]? = some g.2) ∧
      (i = xs.length → Q (.fr (.lst acc)) M2) ∧
      ∀ x, xs[i]? = some x → wpTg t x (wipeD σ own) fun σ1 => mk σ1 M2 (fun _ _ => False) fun b M3 =>
        if b = true then me σ1 M3 (fun _ _ => False) fun y M4 => acc.length < sizeLine ∧ I (i + 1) (acc ++ [shr y]) M4 else I (i + 1) acc M3
theorem lc_sub {t : Tg} {mi : WI} {mk : WT} {own : List Nat} (hin : tgIn t own = true) :
    ∀ σc H Qc, TM X W (mLc t mi mk me own) σc H Qc → tLc (TMI X W mi) (TMG X t) (TMK X (fun _ _ _ _ => False) mk) (TM X (fun _ _ _ _ => False) me) own σc H Qc := by
  intro σc H Qc h
  obtain ⟨ρ, M, σ, Q, Xp, r, s, h, k, kx⟩ := h
  refine ⟨ρ, M, σ, _, Xp, r, s, h, fun ρ1 M1 H1 xs gd J e1 r1 hJ h1 => ?_, kx⟩
  obtain ⟨I, h0, turn⟩ := h1
  intro Dl hD
  have hDn := r1.free hD
  refine ⟨fun i m H' => m = xs.length - i ∧ i ≤ xs.length ∧ ∃ (ρ' : Rg) (M' : Mem) (acc : List D) (vs : List V), ρ'.h = ρ1.h ∧ Exw ρ1 H1 (ρ'.hide Dl) H' ∧ Rel X.K (ρ'.hide Dl) M' H' ∧ H' Dl = some (.lst vs) ∧ RDs (ρ'.hide Dl) X.K H' acc vs ∧ I i acc M', ⟨_, rfl, Nat.zero_le _, ρ1, M1, [], [], rfl, ?_, ?_, upd_same, .nil, h0⟩, ?_⟩
  · refine ⟨List.prefix_refl _, fun a ha hn => ?_, fun _ h n => absurd h n, fun a o h _ => ?_, fun a h => ?_⟩
    · rcases List.mem_cons.mp (show a ∈ Dl :: ρ1.h from ha) with z | z
      · rw [z]; exact hD
      · exact absurd z hn
    · rw [upd_ne (ne_of_none h hD)]; exact h
    · by_cases e : a = Dl
      · rw [e]; exact hD
      · rwa [upd_ne e] at h
  · exact Rel.hide (by rw [del_upd hD]; exact r1) upd_same trivial
  rintro i m H2 ⟨rfl, hi, ρ2, M2, acc, vs, eh, x2, r2, hD2, ha2, i2⟩
  obtain ⟨g2, fin, step⟩ := turn i acc M2 i2
  have hDh : Dl ∉ ρ2.h := by rw [eh]; exact hDn.2
  by_cases hlt : i < xs.length
  · refine .inr ⟨hJ.go i (ρ2.hide Dl) M2 H2 x2 r2 g2 hlt, fun H' => ∃ (ρ' : Rg) (M' : Mem) (acc' : List D) (vs' : List V), ρ'.h = ρ1.h ∧ Exw ρ1 H1 (ρ'.hide Dl) H' ∧ Rel X.K (ρ'.hide Dl) M' H' ∧ H' Dl = some (.lst vs') ∧ RDs (ρ'.hide Dl) X.K H' acc' vs' ∧ I (i + 1) acc' M',
      fun H' h' => ⟨_, by omega, rfl, hlt, h'⟩, fun v H3 y => ?_⟩
    obtain ⟨d, ed, x3, r3, hd⟩ := hJ.yld i (ρ2.hide Dl) M2 H2 v H3 x2 r2 g2 hlt y
    have h1 := step d ed
    have s3 : RS X.K (ρ2.hide Dl) H3 σ σc := ⟨s.1, fun j e ej => by
      obtain ⟨w, e1', q⟩ := s.2 j e ej
      exact ⟨w, e1', RD.mono r2.at x3.w _ _ (RD.mono r1.at x2 _ _ (r.mono e1 q))⟩⟩
    have hD3 : H3 Dl = some (.lst vs) := x3.keep Dl _ hD2 fun z => r2.apart Dl z List.mem_cons_self
    have ha3 := r2.monos x3 ha2
    have hdd : shr d = d := by cases d <;> first | rfl | (cases hd)
    refine ⟨ρ2.hide Dl, _, d, _, s3.wipe own, by rw [hdd]; exact hd, h1, fun σ4 σc4 s4 w4 q4 => ⟨(w4 own hin).trans wipe_idem, ?_⟩⟩
    refine ⟨ρ2.hide Dl, M2, σ4, _, _, r3, s4, q4, fun ρ5 M5 H5 b x5 r5 q5 => ?_, fun ρ' M' H' x cls dd _ _ _ z => z⟩
    -- the region behind a step has Dl hidden as before
    have reg : ∀ {ρ5 : Rg}, ρ5.h = (ρ2.hide Dl).h → ∃ l5, ρ5 = (Rg.mk l5 ρ2.h).hide Dl := fun {ρ5} e => ⟨ρ5.l, by
      cases ρ5; simp only [Rg.hide] at e ⊢; rw [e]⟩
    obtain ⟨l5, rfl⟩ := reg x5.hd
    have x35 : Exw ρ1 H1 ((Rg.mk l5 ρ2.h).hide Dl) H5 := (x2.trans x3.w).trans x5.w
    have hD5 : H5 Dl = some (.lst vs) := x5.keep Dl _ hD3 fun z => r3.apart Dl z List.mem_cons_self
    have ha5 := r3.monos x5 ha3
    cases b with
    | false =>
      rw [if_neg Bool.false_ne_true] at q5
      show if false = true then _ else _
      rw [if_neg Bool.false_ne_true]
      exact ⟨Rg.mk l5 ρ2.h, M5, acc, vs, eh, x35, r5, hD5, ha5, q5⟩
    | true =>
      rw [if_pos rfl] at q5
      show if true = true then _ else _
      rw [if_pos rfl]
      refine ⟨_, M5, σ4, _, _, r5, s4.mono r3 x5, q5, fun ρ6 M6 H6 z w x6 r6 d6 _ q6 => ?_, fun ρ' M' H' x cls dd _ _ _ z => z⟩
      obtain ⟨l6, rfl⟩ := reg (x6.hd.trans x5.hd)
      have x36 : Exw ρ1 H1 ((Rg.mk l6 ρ2.h).hide Dl) H6 := x35.trans x6.w
      have hD6 : H6 Dl = some (.lst vs) := x6.keep Dl _ hD5 fun z => r5.apart Dl z List.mem_cons_self
      have ha6 : RDs ((Rg.mk l6 ρ2.h).hide Dl) X.K H6 (acc ++ [shr z]) (vs ++ [w]) := (r5.monos x6 ha5).app (.cons d6.1 .nil)
      refine ⟨vs, hD6, by rw [← ha2.len]; exact q6.1, Rg.mk l6 ρ2.h, M6, acc ++ [shr z], vs ++ [w], eh, ?_, ?_, upd_same, ?_, q6.2⟩
      · refine ⟨x36.pre, x36.hd, x36.fresh, fun a o h n => ?_, fun a h => x36.dom a ?_⟩
        · rw [upd_ne (ne_of_none h hD)]; exact x36.keep a o h n
        · by_cases e : a = Dl
          · rw [e, upd_same] at h; cases h
          · rwa [upd_ne e] at h
      · exact r6.grow hD6 trivial trivial hDh
      · exact ha6.grow hD6 trivial
  · have e : i = xs.length := by omega
    subst e
    refine .inl ⟨hJ.stop (ρ2.hide Dl) M2 H2 x2 r2 g2, ?_⟩
    have r2' := r2.unhide hD2 trivial hDh
    have ha2' := RDs.unhide hD2 trivial _ _ ha2
    have xd : Ext ρ2 (del H2 Dl) ρ2 H2 := Ext.undel
    refine k ρ2 M2 H2 (.fr (.lst acc)) _ ⟨e1.pre.trans x2.pre, eh.trans e1.hd, fun a ha hn => ?_, fun a o h n => ?_, fun a h => e1.dom a (x2.dom a h)⟩ (r2'.same xd fun a ha => ?_) ⟨.lst hD2 (r2'.free del_same) (r2'.monos xd ha2'), fun f ef => ⟨Dl, _, .lst acc, rfl, hD2, by cases ef; rfl, r2', vs, rfl, ha2'⟩⟩ (fun f ef => ⟨Dl, rfl, e1.dom Dl hD⟩) (fin rfl)
    · by_cases h1 : a ∈ ρ1.l
      · exact e1.fresh a h1 hn
      · exact e1.dom a (x2.fresh a ha h1)
    · refine x2.keep a o (e1.keep a o h n) fun h1 => ?_
      rw [e1.fresh a h1 n] at h; cases h
    · rw [del_ne]
      rintro rfl
      exact r2.apart a ha List.mem_cons_self
end
section
variable {X : Cx} {W : WX} {elt tg iter : Expr} {me : WE} {pos : Pos}
/-- [e for t in it if ..] -/
theorem se_lc {ifs : List Expr} {scope : Scope} {own : List (Str × Nat)} {t : Tg} {mi : WI} {mk : WT} (hc : X.calm = true) (hN : X.N.Nodup) (hi : PI X tg iter (TMI X W mi)) (ok : BlkOk X.N X.env.scope scope own) (hin : tgIn t (own.map (·.2)) = true)
    (hg : ∀ (s : Shared) (H : Hp) (C : Addr) (cl : List (Str × Addr)) (fp : List Addr), PG (X.blk s H scope (compEnvC scope cl C X.env) fp) tg (TMG X t)) (ht : ∀ (s : Shared) (H : Hp) (C : Addr) (cl : List (Str × Addr)) (fp : List Addr), PTs (X.blk s H scope (compEnvC scope cl C X.env) fp) ifs (TMK X (fun _ _ _ _ => False) mk))
    (he : ∀ (s : Shared) (H : Hp) (C : Addr) (cl : List (Str × Addr)) (fp : List Addr), PE (X.blk s H scope (compEnvC scope cl C X.env) fp) elt (TM X (fun _ _ _ _ => False) me)) (hs : ∀ x, foldedSetIterable iter X.env x = pure x) :
    PE X (.ListComp elt [⟨tg, iter, ifs, 0⟩] scope pos) (TM X W (mLc t mi mk me (own.map (·.2)))) :=
  (pe_lc hc hN hi ok hg ht he hs).sub fun σc H Qc h => lc_sub hin σc H Qc h
/-- name = [..] on one line -/
theorem sx_setLc {ifs : List Expr} {scope : Scope} {own : List (Str × Nat)} {t : Tg} {mi : WI} {mk : WT} {i : Nat} {y : Str} {py spos : Pos} {P : Ends} (hc : X.calm = true) (hN : X.N.Nodup) (hy : X.N[i]? = some y) (hyl : X.env.scope.names.lookup y = some .local)
    (hsw : swapsWith (.ListComp elt [⟨tg, iter, ifs, 0⟩] scope pos) (some (.Name y py)) spos.line X.env = pure true) (hi : PI X tg iter (TMI X W mi)) (ok : BlkOk X.N X.env.scope scope own) (hin : tgIn t (own.map (·.2)) = true)
    (hg : ∀ (s : Shared) (H : Hp) (C : Addr) (cl : List (Str × Addr)) (fp : List Addr), PG (X.blk s H scope (compEnvC scope cl C X.env) fp) tg (TMG X t)) (ht : ∀ (s : Shared) (H : Hp) (C : Addr) (cl : List (Str × Addr)) (fp : List Addr), PTs (X.blk s H scope (compEnvC scope cl C X.env) fp) ifs (TMK X (fun _ _ _ _ => False) mk))
    (he : ∀ (s : Shared) (H : Hp) (C : Addr) (cl : List (Str × Addr)) (fp : List Addr), PE (X.blk s H scope (compEnvC scope cl C X.env) fp) elt (TM X (fun _ _ _ _ => False) me)) (hs : ∀ x, foldedSetIterable iter X.env x = pure x) :
    PS X (.Assign [.Name y py] (.ListComp elt [⟨tg, iter, ifs, 0⟩] scope pos) spos) (tAsg (TM X W (mLc t mi mk me (own.map (·.2)))) (gName i)) := by
  have h := ps_setLc (py := py) (pos := pos) (spos := spos) hc hN hy hyl hsw hi ok hg ht he hs
  exact ⟨fun a b c d P J q => h.run a b c d P J (lc_sub hin _ _ _ q)⟩
end
end Lay

set_option Elab.async false
set_option maxRecDepth 100000
set_option linter.all false
/-! Lay, part L: statements. -/
namespace Lay
open PySem L2 RZ PyProof.Rows

abbrev WS := Po → Sl → Mem → Prop
structure KP (X : Cx) (W : WX) (ρ : Rg) (H : Hp) (P : Po) (Z : Ends) : Prop where
  nx : ∀ (ρ' : Rg) (M' : Mem) (H' : Hp) (σ' : Sl) (σc' : L2.St), Ext ρ H ρ' H' → Rel X.K ρ' M' H' → RS X.K ρ' H' σ' σc' → P.nx σ' M' → Z.nx σc' H'
  bk : ∀ (ρ' : Rg) (M' : Mem) (H' : Hp) (σ' : Sl) (σc' : L2.St), Ext ρ H ρ' H' → Rel X.K ρ' M' H' → RS X.K ρ' H' σ' σc' → P.bk σ' M' → Z.bk σc' H'
  ct : ∀ (ρ' : Rg) (M' : Mem) (H' : Hp) (σ' : Sl) (σc' : L2.St), Ext ρ H ρ' H' → Rel X.K ρ' M' H' → RS X.K ρ' H' σ' σc' → P.ct σ' M' → Z.ct σc' H'
  rt : Kt X.K ρ H P.rt Z.rt
  xe : ∀ (ρ' : Rg) (M' : Mem) (H' : Hp) (σ' : Sl) (σc' : L2.St) (x : Xn) (cls : Value) (dd : Option Addr), Ext ρ H ρ' H' → Rel X.K ρ' M' H' → RS X.K ρ' H' σ' σc' → RX X.mg X.K ρ' H' x cls dd → P.xe x σ' M' → W cls dd σc' H'
def TMS (X : Cx) (W : WX) (m : WS) : TS := fun Z σc H => ∃ ρ M σ P, Rel X.K ρ M H ∧ RS X.K ρ H σ σc ∧ m P σ M ∧ KP X W ρ H P Z
theorem _root_.L2.PS.sub {X : Cx} {e : Stmt} {t t' : TS} (h : PS X e t) (i : ∀ σ H Q, t' σ H Q → t σ H Q) : PS X e t' := ⟨fun a b c d e J q => h.run a b c d e J (i _ _ _ q)⟩
theorem _root_.L2.PSs.sub {X : Cx} {e : List Stmt} {t t' : TS} (h : PSs X e t) (i : ∀ σ H Q, t' σ H Q → t σ H Q) : PSs X e t' := ⟨fun a b c d e J q => h.run a b c d e J (i _ _ _ q)⟩
section
variable {X : Cx} {W : WX} {ρ ρ' : Rg} {M : Mem} {H H' : Hp} {P : Po} {Z : Ends} {σ : Sl} {σc : L2.St}
theorem KP.later (k : KP X W ρ H P Z) (x : Ext ρ H ρ' H') : KP X W ρ' H' P Z :=
  ⟨fun _ _ _ _ _ y => k.nx _ _ _ _ _ (x.trans y), fun _ _ _ _ _ y => k.bk _ _ _ _ _ (x.trans y), fun _ _ _ _ _ y => k.ct _ _ _ _ _ (x.trans y), k.rt.later x, fun _ _ _ _ _ _ _ _ y => k.xe _ _ _ _ _ _ _ _ (x.trans y)⟩
theorem KP.kx (k : KP X W ρ H P Z) (r : Rel X.K ρ M H) (s : RS X.K ρ H σ σc) : KX X.mg X.K ρ H (fun x m => P.xe x σ m) fun c d H' => W c d σc H' :=
  fun ρ1 M1 H1 x cls dd e1 r1 rx q => k.xe ρ1 M1 H1 σ σc x cls dd e1 r1 (s.mono r e1) rx q
end
section
variable {X : Cx} {W : WX} {tg e o i c it : Expr} {me mo mi mc : WE} {ma mb : WS} {pos p2 : Pos} {t : Tg} {sa sb ss : List Stmt} {s1 : Stmt}
abbrev mAsg (t : Tg) (me : WE) : WS := fun P σ M => me σ M (fun x m => P.xe x σ m) fun d M1 => wpTg t d σ fun σ' => P.nx σ' M1
theorem asg_sub {te : TE} (h : ∀ σc H Qc, TM X W me σc H Qc → te σc H Qc) : ∀ Z σc H, TMS X W (mAsg t me) Z σc H → tAsg te (TMG X t) Z σc H := by
  intro Z σc H q
  obtain ⟨ρ, M, σ, P, r, s, q, k⟩ := q
  refine h σc H _ ⟨ρ, M, σ, _, _, r, s, q, fun ρ1 M1 H1 d v e1 r1 d1 _ q1 => ?_, k.kx r s⟩
  exact ⟨ρ1, σ, d, _, s.mono r e1, d1.1, q1, fun σ' σc' s' _ q2 => k.nx ρ1 M1 H1 σ' σc' e1 r1 s' q2⟩
theorem ss_asg (he : PE X e (TM X W me)) (hg : PG X tg (TMG X t)) (hs : swapsWithSole [tg] e pos.line X.env = pure false) (hw : swappedStores [tg] e X.env = pure none) (h1 : (assignEach [tg] X.env).map (·.2) = [assign tg X.env]) :
    PS X (.Assign [tg] e pos) (TMS X W (mAsg t me)) := (ps_asg he hg hs hw h1).sub fun Z σc H q => asg_sub (fun _ _ _ z => z) Z σc H q
theorem gname_sub {te : TE} {j : Nat} (h : ∀ σc H Qc, TM X W me σc H Qc → te σc H Qc) : ∀ Z σc H, TMS X W (mAsg (.nm j) me) Z σc H → tAsg te (gName j) Z σc H := by
  intro Z σc H q
  obtain ⟨ρ, M, σ, P, r, s, q, k⟩ := q
  refine h σc H _ ⟨ρ, M, σ, _, _, r, s, q, fun ρ1 M1 H1 d v e1 r1 d1 _ q1 => ?_, k.kx r s⟩
  exact k.nx ρ1 M1 H1 _ _ e1 r1 ((s.mono r e1).set d1.1) q1
/-- a, b = x, y -/
theorem ss_par {a b : Expr} {ml : WL} {j l : Nat} {x y : Str} {px py pt : Pos} {kt k2 : Nat} {pt2 : Pos} (hc : X.calm = true) (hN : X.N.Nodup) (hi : X.N[j]? = some x) (hj : X.N[l]? = some y) (hij : j ≠ l)
    (hx : X.env.scope.names.lookup x = some .local) (hy : X.env.scope.names.lookup y = some .local) (ha : PA X [a, b] (TML X W ml))
    (hw : swappedStores [.Tuple [.Name x px, .Name y py] kt pt] (.Tuple [a, b] k2 pt2) X.env = pure (some [x, y]))
    (hs : swapsWithSole [.Tuple [.Name x px, .Name y py] kt pt] (.Tuple [a, b] k2 pt2) pos.line X.env = pure false) :
    PS X (.Assign [.Tuple [.Name x px, .Name y py] kt pt] (.Tuple [a, b] k2 pt2) pos) (TMS X W (mAsg (.tup (.cons (.nm j) (.cons (.nm l) .nil))) (mTup ml))) := by
  refine (ps_par hc hN hi hj hij hx hy ha hw hs).sub fun Z σc H q => ?_
  obtain ⟨ρ, M, σ, P, r, s, q, k⟩ := q
  refine ⟨ρ, M, σ, _, _, r, s, q, fun ρ1 M1 H1 ds vs e1 r1 hd q1 => ?_, k.kx r s⟩
  obtain ⟨_, xs, ex, d1, ys, e2, d2, zs, e3, e4, q2⟩ := q1
  cases ex
  subst e2 e3 e4
  cases hd with
  | cons h1 h2 =>
    cases h2 with
    | cons h3 h4 =>
      cases h4
      have n1 : shr d1 = d1 := by cases d1 <;> first | rfl | (cases h1)
      have n2 : shr d2 = d2 := by cases d2 <;> first | rfl | (cases h3)
      rw [n1, n2] at q2
      exact ⟨_, _, rfl, k.nx ρ1 M1 H1 _ _ e1 r1 (((s.mono r e1).set h1).set h3) q2⟩
theorem ss_par3 {a b c : Expr} {ml : WL} {j l m : Nat} {x y z : Str} {px py pz pt : Pos} {kt k2 : Nat} {pt2 : Pos} (hc : X.calm = true) (hN : X.N.Nodup) (hi : X.N[j]? = some x) (hj : X.N[l]? = some y) (hl : X.N[m]? = some z) (hij : j ≠ l) (hil : j ≠ m) (hjl : l ≠ m)
    (hx : X.env.scope.names.lookup x = some .local) (hy : X.env.scope.names.lookup y = some .local) (hz : X.env.scope.names.lookup z = some .local) (ha : PA X [a, b, c] (TML X W ml))
    (hw : swappedStores [.Tuple [.Name x px, .Name y py, .Name z pz] kt pt] (.Tuple [a, b, c] k2 pt2) X.env = pure (some [x, y, z]))
    (hs : swapsWithSole [.Tuple [.Name x px, .Name y py, .Name z pz] kt pt] (.Tuple [a, b, c] k2 pt2) pos.line X.env = pure false) :
    PS X (.Assign [.Tuple [.Name x px, .Name y py, .Name z pz] kt pt] (.Tuple [a, b, c] k2 pt2) pos) (TMS X W (mAsg (.tup (.cons (.nm j) (.cons (.nm l) (.cons (.nm m) .nil)))) (mTup ml))) := by
  refine (ps_par3 hc hN hi hj hl hij hil hjl hx hy hz ha hw hs).sub fun Z σc H q => ?_
  obtain ⟨ρ, M, σ, P, r, s, q, k⟩ := q
  refine ⟨ρ, M, σ, _, _, r, s, q, fun ρ1 M1 H1 ds vs e1 r1 hd q1 => ?_, k.kx r s⟩
  obtain ⟨_, xs, ex, d1, ys, e2, d2, zs, e3, d3, us, e4, e5, q2⟩ := q1
  cases ex
  subst e2 e3 e4 e5
  cases hd with
  | cons h1 h2 =>
    cases h2 with
    | cons h3 h4 =>
      cases h4 with
      | cons h5 h6 =>
        cases h6
        have n1 : shr d1 = d1 := by cases d1 <;> first | rfl | (cases h1)
        have n2 : shr d2 = d2 := by cases d2 <;> first | rfl | (cases h3)
        have n3 : shr d3 = d3 := by cases d3 <;> first | rfl | (cases h5)
        rw [n1, n2, n3] at q2
        exact ⟨_, _, _, rfl, k.nx ρ1 M1 H1 _ _ e1 r1 ((((s.mono r e1).set h1).set h3).set h5) q2⟩
/-- o[i] = e -/
def rSetA : TSet := fun o i v H Q => rSetL o i v H Q ∨ rSetD o i v H Q
theorem set_any (hu : X.A.units + 1 < cLine) : PSet X rSetA := fun a b c d o i v ov iv u Q J h1 h2 h3 q => by
  rcases q with q | q
  · exact set_list a b c d o i v ov iv u Q J h1 h2 h3 q
  · exact set_dict hu a b c d o i v ov iv u Q J h1 h2 h3 q
abbrev mPut (mo mi me : WE) : WS := fun P σ M => me σ M (fun x m => P.xe x σ m) fun d M1 => mo σ M1 (fun x m => P.xe x σ m) fun x M2 => mi σ M2 (fun x m => P.xe x σ m) fun y M3 => opSet x (shr y) (shr d) M3 fun M4 => P.nx σ M4
theorem ss_put (cd : Cd X) (ho : PE X o (TM X W mo)) (hi : PE X i (TM X W mi)) (he : PE X e (TM X W me)) (hs : swapsWithSole [.Subscript o i p2] e pos.line X.env = pure false) (hw : swappedStores [.Subscript o i p2] e X.env = pure none)
    (h1 : (assignEach [.Subscript o i p2] X.env).map (·.2) = [assign (.Subscript o i p2) X.env])
    (ha : ∀ v, assign (.Subscript o i p2) X.env v = (do
      let ov ← holding [v] (eval o X.env)
      let iv ← holding [v, ov] (eval i X.env)
      standAt p2
      holding [v, ov, iv] (setItem ov iv v)
      release [v, ov, iv] [])) : PS X (.Assign [.Subscript o i p2] e pos) (TMS X W (mPut mo mi me)) := by
  refine (ps_asg he (pg_sub ho hi (set_any (by have := cd.units; omega)) ha) hs hw h1).sub fun Z σc H q => ?_
  obtain ⟨ρ, M, σ, P, r, s, q, k⟩ := q
  refine ⟨ρ, M, σ, _, _, r, s, q, fun ρ1 M1 H1 d v x1 r1 d1 _ q1 => ⟨ρ1, M1, σ, _, _, r1, s.mono r x1, q1, fun ρ2 M2 H2 od ov x2 r2 od2 _ q2 => ⟨ρ2, M2, σ, _, _, r2, s.mono r (x1.trans x2), q2, fun ρ3 M3 H3 yd yv x3 r3 yd3 _ q3 => ?_, (k.later (x1.trans x2)).kx r2 (s.mono r (x1.trans x2))⟩, (k.later x1).kx r1 (s.mono r x1)⟩, k.kx r s⟩
  have hd : RD ρ3 X.K H3 (shr d) v := r2.mono x3 (r1.mono x2 d1.1)
  have ho3 : RD ρ3 X.K H3 (shr od) ov := r2.mono x3 od2.1
  rcases q3 with ⟨n, xs, kk, j, rfl, hM, hi, hj, q⟩ | ⟨n, ks, kk, rfl, hM, hi, hl, q⟩
  · cases ho3 with
    | @loc _ a ha =>
      obtain ⟨u, e1, vs, e2, hx⟩ := r3.cell _ _ _ hM ha
      subst e2
      have xw : Ext ρ3 H3 ρ3 (upd H3 a (.lst (vs.set j v))) := Ext.write (List.mem_of_getElem? ha)
      have yd4 := yd3.1
      rw [hi] at yd4
      refine .inl ⟨a, vs, kk, j, rfl, yd4.toInt, e1, by rw [← hx.len]; exact hj, ?_⟩
      exact k.nx ρ3 _ _ σ σc (((x1.trans x2).trans x3).trans xw) (r3.write (c := .lst _) ha ⟨_, rfl, r3.monos xw (hx.set j hd)⟩) (s.mono r (((x1.trans x2).trans x3).trans xw)) q
  · cases ho3 with
    | @loc _ a ha =>
      obtain ⟨u, e1, vs, e2, hx⟩ := r3.cell _ _ _ hM ha
      subst e2
      have xw : Ext ρ3 H3 ρ3 (upd H3 a (.dK (putK vs kk v))) := Ext.write (List.mem_of_getElem? ha)
      refine .inr ⟨a, _, rfl, ?_, k.nx ρ3 _ _ σ σc (((x1.trans x2).trans x3).trans xw) (r3.write (c := .dic _) ha ⟨_, rfl, r3.monok xw (hx.put hd)⟩) (s.mono r (((x1.trans x2).trans x3).trans xw)) q⟩
      rw [yd3.1.key hi]
      exact DPut.k e1 (by rw [← hx.len]; exact hl)
abbrev mEx (me : WE) : WS := fun P σ M => me σ M (fun x m => P.xe x σ m) fun _ M1 => P.nx σ M1
theorem ss_ex (he : PE X e (TM X W me)) (hs : swapsWith e none pos.line X.env = pure false) : PS X (.Expr e pos) (TMS X W (mEx me)) := by
  refine (ps_expr he hs).sub fun Z σc H q => ?_
  obtain ⟨ρ, M, σ, P, r, s, q, k⟩ := q
  exact ⟨ρ, M, σ, _, _, r, s, q, fun ρ1 M1 H1 d v x1 r1 d1 _ q1 => k.nx ρ1 M1 H1 σ σc x1 r1 (s.mono r x1) q1, k.kx r s⟩
abbrev mRet (me : WE) : WS := fun P σ M => me σ M (fun x m => P.xe x σ m) P.rt
theorem ss_ret (he : PE X e (TM X W me)) : PS X (.Return (some e) pos) (TMS X W (mRet me)) := by
  refine (ps_ret he).sub fun Z σc H q => ?_
  obtain ⟨ρ, M, σ, P, r, s, q, k⟩ := q
  exact ⟨ρ, M, σ, _, _, r, s, q, k.rt, k.kx r s⟩
theorem ss_retN : PS X (.Return none pos) (TMS X W fun P _ M => P.rt .non M) := by
  refine ps_retN.sub fun Z σc H q => ?_
  obtain ⟨ρ, M, σ, P, r, s, q, k⟩ := q
  exact k.rt.non r q
abbrev mIf (mc : WE) (ma mb : WS) : WS := fun P σ M => mc σ M (fun x m => P.xe x σ m) fun x M1 => truth (shr x) M1 fun k => if k = true then ma P σ M1 else mb P σ M1
theorem ss_if (hc : PT X c (TMT X W mc)) (ha : PSs X sa (TMS X W ma)) (hb : PSs X sb (TMS X W mb)) : PS X (.If c sa sb pos) (TMS X W (mIf mc ma mb)) := by
  refine (ps_if hc ha hb).sub fun Z σc H q => ?_
  obtain ⟨ρ, M, σ, P, r, s, q, k⟩ := q
  refine ⟨ρ, M, σ, _, _, r, s, q, fun ρ1 M1 H1 d v x1 r1 _ q1 => truth_mono (fun b q2 => ?_) q1, k.kx r s⟩
  cases b with
  | true => rw [if_pos rfl] at q2 ⊢; exact ⟨ρ1, M1, σ, P, r1, s.mono r x1, q2, k.later x1⟩
  | false => rw [if_neg Bool.false_ne_true] at q2 ⊢; exact ⟨ρ1, M1, σ, P, r1, s.mono r x1, q2, k.later x1⟩
abbrev mWhl (mc : WE) (mb : WS) : WS := fun P σ M => ∃ I : Nat → Sl → Mem → Prop, (∃ m, I m σ M) ∧ ∀ m σ1 M1, I m σ1 M1 → mc σ1 M1 (fun x m => P.xe x σ1 m) fun x M2 => truth (shr x) M2 fun k =>
      if k = true then mb { nx := fun σ3 M3 => ∃ m', m' < m ∧ I m' σ3 M3, ct := fun σ3 M3 => ∃ m', m' < m ∧ I m' σ3 M3, bk := P.nx, rt := P.rt, xe := P.xe } σ1 M2 else P.nx σ1 M2
theorem ss_whl (hp : PassesOwn (model X.prog X.w) X.A X.env X.xe) (hc : PT X c (TMT X W mc)) (hb : PSs X sb (TMS X W mb)) : PS X (.While c sb [] pos) (TMS X W (mWhl mc mb)) := by
  refine (ps_while hp hc hb).sub fun Z σc H q => ?_
  obtain ⟨ρ, M, σ, P, r, s, ⟨I, ⟨m0, i0⟩, turn⟩, k⟩ := q
  refine ⟨fun m σc' H' => ∃ ρ' M' σ', Ext ρ H ρ' H' ∧ Rel X.K ρ' M' H' ∧ RS X.K ρ' H' σ' σc' ∧ I m σ' M', ⟨m0, ρ, M, σ, Ext.refl _ _, r, s, i0⟩, ?_⟩
  rintro m σc1 H1 ⟨ρ1, M1, σ1, x1, r1, s1, i1⟩
  refine ⟨ρ1, M1, σ1, _, _, r1, s1, turn m σ1 M1 i1, fun ρ2 M2 H2 d v x2 r2 _ q2 => truth_mono (fun b q3 => ?_) q2, (k.later x1).kx r1 s1⟩
  cases b with
  | false => rw [if_neg Bool.false_ne_true] at q3 ⊢; exact k.nx ρ2 M2 H2 σ1 σc1 (x1.trans x2) r2 (s1.mono r1 x2) q3
  | true =>
    rw [if_pos rfl] at q3 ⊢
    refine ⟨fun σc' H' => ∃ m', m' < m ∧ ∃ ρ' M' σ', Ext ρ H ρ' H' ∧ Rel X.K ρ' M' H' ∧ RS X.K ρ' H' σ' σc' ∧ I m' σ' M', fun _ _ z => z, ρ2, M2, σ1, _, r2, s1.mono r1 x2, q3, ?_⟩
    have x12 := x1.trans x2
    refine ⟨fun ρ3 M3 H3 σ3 σc3 x3 r3 s3 q => ?_, fun ρ3 M3 H3 σ3 σc3 x3 r3 s3 q => k.nx ρ3 M3 H3 σ3 σc3 (x12.trans x3) r3 s3 q, fun ρ3 M3 H3 σ3 σc3 x3 r3 s3 q => ?_, k.rt.later x12, fun ρ3 M3 H3 σ3 σc3 x cls dd x3 r3 s3 rx q => k.xe ρ3 M3 H3 σ3 σc3 x cls dd (x12.trans x3) r3 s3 rx q⟩
    · obtain ⟨m', hm, q⟩ := q; exact ⟨m', hm, ρ3, M3, σ3, x12.trans x3, r3, s3, q⟩
    · obtain ⟨m', hm, q⟩ := q; exact ⟨m', hm, ρ3, M3, σ3, x12.trans x3, r3, s3, q⟩
abbrev mFor (t : Tg) (mi : WI) (mb : WS) : WS := fun P σ M => mi σ M (fun x m => P.xe x σ m) fun xs gd M1 => ∃ I : Nat → Sl → Mem → Prop, I 0 σ M1 ∧ ∀ i σ2 M2, I i σ2 M2 →
      (∀ g ∈ gd, M2[g.1]? = some g.2) ∧
      (i = xs.length → P.nx σ2 M2) ∧
      ∀ x, xs[i]? = some x → wpTg t x σ2 fun σ3 => mb { nx := I (i + 1), ct := I (i + 1), bk := P.nx, rt := P.rt, xe := P.xe } σ3 M2
theorem ss_for {mi : WI} (hp : PassesOwn (model X.prog X.w) X.A X.env X.xe) (hc : X.calm = true) (hi : PI X tg it (TMI X W mi)) (hg : PG X tg (TMG X t)) (hb : PSs X sb (TMS X W mb)) (hs : ∀ x, foldedSetIterable it X.env x = pure x) :
    PS X (.For tg it sb [] pos) (TMS X W (mFor t mi mb)) := by
  refine (ps_for hp hc hi hg hb hs).sub fun Z σc H q => ?_
  obtain ⟨ρ, M, σ, P, r, s, q, k⟩ := q
  refine ⟨ρ, M, σ, _, _, r, s, q, fun ρ1 M1 H1 xs gd J x1 r1 hJ q1 => ?_, k.kx r s⟩
  obtain ⟨I, i0, turn⟩ := q1
  refine ⟨fun i m σc' H' => m = xs.length - i ∧ i ≤ xs.length ∧ ∃ ρ' M' σ', Ext ρ1 H1 ρ' H' ∧ Rel X.K ρ' M' H' ∧ RS X.K ρ' H' σ' σc' ∧ I i σ' M', ⟨_, rfl, Nat.zero_le _, ρ1, M1, σ, Ext.refl _ _, r1, s.mono r x1, i0⟩, ?_⟩
  rintro i m σc2 H2 ⟨rfl, hi, ρ2, M2, σ2, x2, r2, s2, i2⟩
  obtain ⟨g2, fin, step⟩ := turn i σ2 M2 i2
  by_cases hlt : i < xs.length
  · refine .inr ⟨hJ.go i ρ2 M2 H2 x2.w r2 g2 hlt, fun σc' H' => ∃ ρ' M' σ', Ext ρ1 H1 ρ' H' ∧ Rel X.K ρ' M' H' ∧ RS X.K ρ' H' σ' σc' ∧ I (i + 1) σ' M', fun σc' H' z => ⟨_, by omega, rfl, hlt, z⟩, fun v H3 y => ?_⟩
    obtain ⟨d, ed, x3, r3, hd⟩ := hJ.yld i ρ2 M2 H2 v H3 x2.w r2 g2 hlt y
    have hdd : shr d = d := by cases d <;> first | rfl | (cases hd)
    have x23 := x2.trans x3
    have x13 := x1.trans x23
    refine ⟨ρ2, σ2, d, _, s2.mono r2 x3, by rw [hdd]; exact hd, step d ed, fun σ4 σc4 s4 _ q4 => ⟨ρ2, M2, σ4, _, r3, s4, q4, ?_⟩⟩
    exact ⟨fun ρ5 M5 H5 σ5 σc5 x5 r5 s5 q => ⟨ρ5, M5, σ5, x23.trans x5, r5, s5, q⟩, fun ρ5 M5 H5 σ5 σc5 x5 r5 s5 q => k.nx ρ5 M5 H5 σ5 σc5 (x13.trans x5) r5 s5 q, fun ρ5 M5 H5 σ5 σc5 x5 r5 s5 q => ⟨ρ5, M5, σ5, x23.trans x5, r5, s5, q⟩, k.rt.later x13,
      fun ρ5 M5 H5 σ5 σc5 x cls dd x5 r5 s5 rx q => k.xe ρ5 M5 H5 σ5 σc5 x cls dd (x13.trans x5) r5 s5 rx q⟩
  · have e : i = xs.length := by omega
    subst e
    exact .inl ⟨hJ.stop ρ2 M2 H2 x2.w r2 g2, k.nx ρ2 M2 H2 σ2 σc2 (x1.trans x2) r2 s2 (fin rfl)⟩
theorem ss_brk : PS X (.Break pos) (TMS X W fun P σ M => P.bk σ M) := ps_break.sub fun Z σc H ⟨ρ, M, σ, P, r, s, q, k⟩ => k.bk ρ M H σ σc (Ext.refl _ _) r s q
theorem ss_cnt : PS X (.Continue pos) (TMS X W fun P σ M => P.ct σ M) := ps_continue.sub fun Z σc H ⟨ρ, M, σ, P, r, s, q, k⟩ => k.ct ρ M H σ σc (Ext.refl _ _) r s q
theorem ss_pass : PS X (.Pass pos) (TMS X W fun P σ M => P.nx σ M) := ps_pass.sub fun Z σc H ⟨ρ, M, σ, P, r, s, q, k⟩ => k.nx ρ M H σ σc (Ext.refl _ _) r s q
theorem ss_doc {x : Str} {j : Nat} : PS X (.Expr (.Constant (.str x) j p2) pos) (TMS X W fun P σ M => P.nx σ M) := ps_doc.sub fun Z σc H ⟨ρ, M, σ, P, r, s, q, k⟩ => k.nx ρ M H σ σc (Ext.refl _ _) r s q
theorem sss_nil : PSs X [] (TMS X W fun P σ M => P.nx σ M) := by
  refine pss_nil.sub fun Z σc H q => ?_
  obtain ⟨ρ, M, σ, P, r, s, q, k⟩ := q
  exact k.nx ρ M H σ σc (Ext.refl _ _) r s q
theorem sss_cons (h1 : PS X s1 (TMS X W ma)) (h2 : PSs X ss (TMS X W mb)) : PSs X (s1 :: ss) (TMS X W fun P σ M => ma { P with nx := fun σ' M' => mb P σ' M' } σ M) := by
  refine (pss_cons h1 h2).sub fun Z σc H q => ?_
  obtain ⟨ρ, M, σ, P, r, s, q, k⟩ := q
  exact ⟨ρ, M, σ, _, r, s, q, ⟨fun ρ1 M1 H1 σ1 σc1 x1 r1 s1 q1 => ⟨ρ1, M1, σ1, P, r1, s1, q1, k.later x1⟩, k.bk, k.ct, k.rt, k.xe⟩⟩
end
end Lay

set_option Elab.async false
set_option maxRecDepth 100000
set_option linter.all false
/-! Lay, part X: list(range(..)). -/
namespace Lay
open PySem L2 RZ PyProof.Rows

theorem vals_from {f : Nat → V} : ∀ (l : List Value) (n : Nat), (∀ j v, l[j]? = some v → RelV (f (n + j)) v) → Vals ((List.range' n l.length).map f) l
  | [], n, _ => .nil
  | u :: l, n, h => by
    rw [List.length_cons, List.range'_succ, List.map_cons]
    refine .cons (by simpa using h 0 u rfl) (vals_from l (n + 1) fun j v e => ?_)
    have := h (j + 1) v (by simpa using e)
    rwa [show n + 1 + j = n + (j + 1) by omega]
theorem rds_rng {ρ : Rg} {K : PySem.W.Frag} {H : Hp} (lo c : Int) : ∀ l : List Nat, RDs ρ K H (l.map fun (i : Nat) => D.int (lo + (i : Int) * c)) (l.map fun (i : Nat) => V.int (lo + (i : Int) * c))
  | [] => .nil
  | i :: l => .cons (.int _) (rds_rng lo c l)
section
variable {X : Cx} {W : WX} {ml : WL} {a b : Expr} {p p2 pos pos2 : Pos}
/-- the new list of a range's numbers -/
theorem list_rng (cd : Cd X) {ps : List (Addr × Obj)} {σc : L2.St} {H : Hp} {s : Shared} {ρ : Rg} {M : Mem} {Q : Kd} {Qc : VK} {lo hi : Int} {t u v : Tok} {tk : Nat} {n : Nat} (J : Inv X ps σc H s) (r : Rel X.K ρ M H) (k : Kt X.K ρ H Q Qc)
    (hn : n = (hi - lo).toNat) (h1 : small62 lo) (h2 : small62 hi) (hz : n ≤ sizeLine) (q : Q (.fr (.lst (rngD lo n 1))) M) :
    wpAny (model X.prog X.w) X.A (call (.type "list") [.ref s.heap.objs.size]) (EP X ps σc Qc) X.xe { s with heap := s.heap.push { cls := .type "range", data := .fields #[.int lo t, .int hi u, .int 1 v] }, toks := tk } := by
  have hsz : Builtin.Range.rangeSize lo hi 1 = n := by rw [rangeSize_one]; split <;> omega
  have J1 : Inv X ps σc H { s with heap := s.heap.push { cls := .type "range", data := .fields #[.int lo t, .int hi u, .int 1 v] }, toks := tk } := J.kept fun b o e => Heap.get?_push_of_some _ e
  refine call_list_range (n := n) (J.ok.hd cd.calm) (IsRange.new ..) (small_one h1.1 h1.2 h2.1 h2.2) hsz (by rw [sizeLine_eq] at hz; omega) fun h' tk' acc c' hk hS hacc => ?_
  have hv : Vals ((List.range n).map fun (i : Nat) => V.int (lo + (i : Int) * 1)) acc.toList := by
    have hl : acc.toList.length = n := by rw [Array.length_toList]; exact hacc.1
    have := vals_from (f := fun (i : Nat) => V.int (lo + (i : Int) * 1)) acc.toList 0 fun j w e => by
      obtain ⟨t', rfl⟩ := hacc.2 j w (by simpa using e)
      exact ⟨t', by rw [Nat.zero_add]⟩
    rw [hl, ← List.range_eq_range'] at this
    exact this
  have hf := J1.hok.fresh (Nat.le_refl (s.heap.push { cls := .type "range", data := .fields #[.int lo t, .int hi u, .int 1 v] }).objs.size)
  have new : ObjOk X.prog X.w (upd H (s.heap.push { cls := .type "range", data := .fields #[.int lo t, .int hi u, .int 1 v] }).objs.size (.lst ((List.range n).map fun (i : Nat) => V.int (lo + (i : Int) * 1)))) h' (s.heap.push { cls := .type "range", data := .fields #[.int lo t, .int hi u, .int 1 v] }).objs.size (.lst ((List.range n).map fun (i : Nat) => V.int (lo + (i : Int) * 1))) :=
    ⟨by rw [List.length_map, List.length_range]; exact hz, acc.toList, c', hv, by rw [Array.toArray_toList]; exact hS⟩
  exact ⟨V.ref _, _, J1.laid (t' := tk') hk (Nat.le_refl _) new, rfl, k.lst r (rds_rng lo 1 (List.range n)) q hf⟩
theorem se_lrng1 (cd : Cd X) (hgl : Gl X "list") (hml : X.mg "list" = none) (hg : Gl X "range") (hm : X.mg "range" = none) (ha : PA X [a] (TML X W ml)) (hs : starEach [a] X.env = [(false, eval a X.env)]) :
    PE X (.Call (.Name "list" p) [.Call (.Name "range" p2) [a] [] pos2] [] pos) (TM X W fun σ M Xp Q => ml σ M Xp fun ds M1 => opRng 1 ds fun xs => xs.length ≤ sizeLine ∧ Q (.fr (.lst xs)) M1) := by
  refine ⟨fun ps s σc H Qc J h => ?_⟩
  obtain ⟨ρ, M, σ, Q, Xp, r, sl, h, k, kx⟩ := h
  have h1 : TML X W ml σc H fun vs H1 => ∃ ρ1 M1 j, Ext ρ H ρ1 H1 ∧ Rel X.K ρ1 M1 H1 ∧ vs = [.int j] ∧ small62 j ∧ (rngD 0 j.toNat 1).length ≤ sizeLine ∧ Q (.fr (.lst (rngD 0 j.toNat 1))) M1 :=
    ⟨ρ, M, σ, _, Xp, r, sl, h, fun ρ1 M1 H1 ds vs e1 r1 hd q => by
      obtain ⟨j, rfl, z, q⟩ := q
      cases hd with
      | cons d1 d2 => cases d2; exact ⟨ρ1, M1, j, e1, r1, by rw [d1.toInt], z, q⟩, kx⟩
  refine Call_ (ld_blt J hgl hml (by decide +kernel : bootBuiltins "list" = some (.type "list")) (PyProof.Rows.callWith_type1 ?_ rfl rfl))
  refine Calls.spliced_cons (Call_ (ld_blt J hg hm boot_range (PyProof.Rows.callWith_type1 (thn (ha.run pos2 ps s σc H _ J h1) fun us s1 ⟨vs, H1, J1, rv, ρ1, M1, j, e1, r1, ev, hj, hz, q⟩ => ?_) hs rfl)))
  subst ev
  obtain ⟨w, rfl, rw'⟩ := vals1 rv
  obtain ⟨t, rfl⟩ := rw'
  refine call_range_1 (Calls.spliced_nil ?_)
  exact list_rng cd J1 r1 (k.later e1) (by rw [Int.sub_zero]) (by unfold small62; decide) hj (by rw [rngD_len] at hz; exact hz) q
theorem se_lrng2 (cd : Cd X) (hgl : Gl X "list") (hml : X.mg "list" = none) (hg : Gl X "range") (hm : X.mg "range" = none) (ha : PA X [a, b] (TML X W ml)) (hs : starEach [a, b] X.env = [(false, eval a X.env), (false, eval b X.env)]) (hs2 : starEach [b] X.env = [(false, eval b X.env)]) :
    PE X (.Call (.Name "list" p) [.Call (.Name "range" p2) [a, b] [] pos2] [] pos) (TM X W fun σ M Xp Q => ml σ M Xp fun ds M1 => opRng 2 ds fun xs => xs.length ≤ sizeLine ∧ Q (.fr (.lst xs)) M1) := by
  refine ⟨fun ps s σc H Qc J h => ?_⟩
  obtain ⟨ρ, M, σ, Q, Xp, r, sl, h, k, kx⟩ := h
  have h1 : TML X W ml σc H fun vs H1 => ∃ ρ1 M1 i j, Ext ρ H ρ1 H1 ∧ Rel X.K ρ1 M1 H1 ∧ vs = [.int i, .int j] ∧ small62 i ∧ small62 j ∧ (rngD i (j - i).toNat 1).length ≤ sizeLine ∧ Q (.fr (.lst (rngD i (j - i).toNat 1))) M1 :=
    ⟨ρ, M, σ, _, Xp, r, sl, h, fun ρ1 M1 H1 ds vs e1 r1 hd q => by
      obtain ⟨i, j, rfl, z1, z2, q⟩ := q
      cases hd with
      | cons d1 d2 =>
        cases d2 with
        | cons d3 d4 => cases d4; exact ⟨ρ1, M1, i, j, e1, r1, by rw [d1.toInt, d3.toInt], z1, z2, q⟩, kx⟩
  refine Call_ (ld_blt J hgl hml (by decide +kernel : bootBuiltins "list" = some (.type "list")) (PyProof.Rows.callWith_type1 ?_ rfl rfl))
  refine Calls.spliced_cons (Call_ (ld_blt J hg hm boot_range (PyProof.Rows.callWith_type1 (thn (ha.run pos2 ps s σc H _ J h1) fun us s1 ⟨vs, H1, J1, rv, ρ1, M1, i, j, e1, r1, ev, hi, hj, hz, q⟩ => ?_) (by rw [hs, hs2]) (by rw [hs2]; rfl))))
  subst ev
  cases rv with
  | cons q1 q2 =>
    cases q2 with
    | cons q3 q4 =>
      cases q4
      obtain ⟨t, rfl⟩ := q1
      obtain ⟨t', rfl⟩ := q3
      refine call_range_2 (Calls.spliced_nil ?_)
      exact list_rng cd J1 r1 (k.later e1) rfl hi hj (by rw [rngD_len] at hz; exact hz) q
end
end Lay

set_option Elab.async false
set_option maxRecDepth 100000
set_option maxHeartbeats 2000000
set_option linter.all false
/-! Lay, part Zp: list(zip(xs, ys)) of two lists. -/
namespace Lay
open PySem L2 RZ PyProof.Rows

/-! ### the walk -/
structure ZG (xs ys : Array Value) (lo : Addr) (h : Heap) (as : List Addr) : Prop where
  rise : as.Pairwise (· < ·)
  above : ∀ a ∈ as, lo < a
  pairs : ∀ (j : Nat) (a : Addr), as[j]? = some a → ∃ x y, xs[j]? = some x ∧ ys[j]? = some y ∧ h.get? a = some { cls := .type "tuple", data := .seq #[x, y] }
theorem ZG.there {xs ys : Array Value} {lo : Addr} {h : Heap} {as : List Addr} (g : ZG xs ys lo h as) {a : Addr} (ha : a ∈ as) : a < h.objs.size := by
  obtain ⟨j, hj⟩ := List.mem_iff_getElem?.mp ha
  obtain ⟨_, _, _, _, e⟩ := g.pairs j a hj
  exact Heap.lt_size e
def ZSt (z TI TO i1 i2 l1 l2 S : Addr) (xs ys : Array Value) (i : Nat) (h : Heap) : Prop :=
  IsPair h TI (.ref i1) (.ref i2) ∧ h.IsListIter i1 l1 i ∧ h.IsListIter i2 l2 i ∧ h.IsList l1 xs ∧ h.IsList l2 ys ∧
    ((IsZip h z TI TO .none ∧ ∃ a b, IsPair h TO a b) ∨ ∃ T f oT, IsZipHeld h z TI TO T f ∧ h.get? T = some oT ∧ T ≠ z ∧ T ≠ i1 ∧ T ≠ i2 ∧ T ≠ S)
/-- all stand below -/
structure Under (z TI TO i1 i2 l1 l2 S : Addr) : Prop where
  z : z < S
  TI : TI < S
  TO : TO < S
  i1 : i1 < S
  i2 : i2 < S
  l1 : l1 < S
  l2 : l2 < S
theorem ZSt.keep {z TI TO i1 i2 l1 l2 S : Addr} {xs ys : Array Value} {i : Nat} {h h' : Heap} (U : Under z TI TO i1 i2 l1 l2 S) (st : ZSt z TI TO i1 i2 l1 l2 S xs ys i h) (hk : ∀ b o, b ≠ S → h.get? b = some o → h'.get? b = some o) : ZSt z TI TO i1 i2 l1 l2 S xs ys i h' := by
  obtain ⟨hTI, h1, h2, hl1, hl2, hz⟩ := st
  refine ⟨hk _ _ (Nat.ne_of_lt U.TI) hTI, h1.at fun o e => hk _ o (Nat.ne_of_lt U.i1) e, h2.at fun o e => hk _ o (Nat.ne_of_lt U.i2) e, hl1.at fun o e => hk _ o (Nat.ne_of_lt U.l1) e, hl2.at fun o e => hk _ o (Nat.ne_of_lt U.l2) e, ?_⟩
  rcases hz with ⟨hz, a, b, hTO⟩ | ⟨T, f, oT, hz, hT, r1, r2, r3, r4⟩
  · exact .inl ⟨hk _ _ (Nat.ne_of_lt U.z) hz, a, b, hk _ _ (Nat.ne_of_lt U.TO) hTO⟩
  · exact .inr ⟨T, f, oT, hk _ _ (Nat.ne_of_lt U.z) hz, hk _ _ r4 hT, r1, r2, r3, r4⟩
section
variable {prog : Program} {w : World} {A : Around} {E : Value → Shared → Prop} {s : Shared} {z TI TO i1 i2 l1 l2 S : Addr} {xs ys : Array Value}
theorem zs_item {i : Nat} {x y : Value} {Q : Option Value → Shared → Prop} (D : ZipApart z TI TO i1 i2 l1 l2) (st : ZSt z TI TO i1 i2 l1 l2 S xs ys i s.heap) (hS : S < s.heap.objs.size) (ex : xs[i]? = some x) (ey : ys[i]? = some y)
    (hQ : ∀ h', ZSt z TI TO i1 i2 l1 l2 S xs ys (i + 1) h' → h'.get? s.heap.objs.size = some { cls := .type "tuple", data := .seq #[x, y] } → h'.objs.size = s.heap.objs.size + 1 →
      (∀ c o, c ≠ z → c ≠ TO → c ≠ i1 → c ≠ i2 → s.heap.get? c = some o → h'.get? c = some o) → Q (some (.ref s.heap.objs.size)) { s with heap := h' }) : wpAny (model prog w) A (pyNext (.ref z)) Q E s := by
  obtain ⟨hTI, h1, h2, hl1, hl2, hz⟩ := st
  have lt : ∀ {c o}, s.heap.get? c = some o → s.heap.objs.size ≠ c := fun e => Nat.ne_of_gt (Heap.lt_size e)
  have n1 : s.heap.objs.size ≠ i1 := let ⟨_, e, _⟩ := h1; lt e
  have n2 : s.heap.objs.size ≠ i2 := let ⟨_, e, _⟩ := h2; lt e
  rcases hz with ⟨hz, a, b, hTO⟩ | ⟨T, f, oT, hz, hT, r1, r2, r3, r4⟩
  · refine wpAny_pyNext_zip_item D hz hTI hTO h1 h2 hl1 hl2 ex ey fun h' a1 a2 a3 a4 a5 a6 hk => ?_
    exact hQ h' ⟨hk _ _ D.TIz D.TITO D.TIi1 D.TIi2 hTI, a3, a4, hl1.at fun o e => hk _ o D.l1z D.l1TO D.l1i1 D.l1i2 e, hl2.at fun o e => hk _ o D.l2z D.l2TO D.l2i1 D.l2i2 e,
      .inr ⟨s.heap.objs.size, false, _, a1, a5, lt hz, n1, n2, Nat.ne_of_gt hS⟩⟩ a5 a6 hk
  · refine wpAny_pyNext_zip_item_held D hz hT hTI h1 h2 hl1 hl2 ex ey fun h' a1 a3 a4 a5 a6 hk => ?_
    exact hQ h' ⟨hk _ _ D.TIz D.TIi1 D.TIi2 hTI, a3, a4, hl1.at fun o e => hk _ o D.l1z D.l1i1 D.l1i2 e, hl2.at fun o e => hk _ o D.l2z D.l2i1 D.l2i2 e,
      .inr ⟨T, true, oT, a1, hk _ _ r1 r2 r3 hT, r1, r2, r3, r4⟩⟩ a5 a6 fun c o c1 _ c3 c4 e => hk c o c1 c3 c4 e
theorem zs_end {i : Nat} {Q : Option Value → Shared → Prop} (hh : A.handled = none) (D : ZipApart z TI TO i1 i2 l1 l2) (st : ZSt z TI TO i1 i2 l1 l2 S xs ys i s.heap) (hend : xs[i]? = none ∨ ys[i]? = none)
    (hQ : ∀ h', (∀ c o, c ≠ z → c ≠ TO → c ≠ i1 → c ≠ i2 → s.heap.get? c = some o → h'.get? c = some o) → Q none { s with heap := h' }) : wpAny (model prog w) A (pyNext (.ref z)) Q E s := by
  obtain ⟨hTI, h1, h2, hl1, hl2, hz⟩ := st
  rcases hz with ⟨hz, a, b, hTO⟩ | ⟨T, f, oT, hz, hT, r1, r2, r3, r4⟩
  · exact wpAny_pyNext_zip_end hh D hz hTI hTO h1 h2 hl1 hl2 hend fun h' hk => hQ h' fun c o c1 c2 c3 c4 e => hk c o c1 c2 c3 c4 e
  · exact wpAny_pyNext_zip_end_held hh D hz hT hTI h1 h2 hl1 hl2 hend fun h' hk => hQ h' fun c o c1 _ c3 c4 e => hk c o c1 c3 c4 e
theorem zs_loop {n : Nat} {R : Result → Shared → Prop} (hh : A.handled = none) (D : ZipApart z TI TO i1 i2 l1 l2) (U : Under z TI TO i1 i2 l1 l2 S) (hnd : n = min xs.size ys.size) (hn : n ≤ sizeLine) (res : Value) {h₁ : Heap}
    (hR : ∀ h' tk acc c as, (∀ b o, b ≠ S → b ≠ z → b ≠ TO → b ≠ i1 → b ≠ i2 → h₁.get? b = some o → h'.get? b = some o) → h'.get? S = some { cls := .type "list", dict := none, data := .seq acc c, slots := #[] } → as.length = n → ZG xs ys S h' as →
      acc.toList = as.map Value.ref → R (.ok (.ret res)) { s with heap := h', toks := tk }) :
    ∀ (k i : Nat) (h : Heap) (tk c : Nat) (acc : Array Value) (as : List Addr), n - i = k → i ≤ n → ZSt z TI TO i1 i2 l1 l2 S xs ys i h → (∀ b o, b ≠ S → b ≠ z → b ≠ TO → b ≠ i1 → b ≠ i2 → h₁.get? b = some o → h.get? b = some o) →
      h.get? S = some { cls := .type "list", dict := none, data := .seq acc c, slots := #[] } → acc.toList = as.map Value.ref → as.length = i → ZG xs ys S h as →
      codeAny (model prog w) A (.builtin "list.extend.loop" ⟨[.ref S, .ref z, res], []⟩) R { s with heap := h, toks := tk } := by
  have nz : S ≠ z := Nat.ne_of_gt U.z
  have nTO : S ≠ TO := Nat.ne_of_gt U.TO
  have ni1 : S ≠ i1 := Nat.ne_of_gt U.i1
  have ni2 : S ≠ i2 := Nat.ne_of_gt U.i2
  have up4 : ∀ {a : Addr}, S < a → a ≠ z ∧ a ≠ TO ∧ a ≠ i1 ∧ a ≠ i2 := fun h => ⟨Nat.ne_of_gt (Nat.lt_trans U.z h), Nat.ne_of_gt (Nat.lt_trans U.TO h), Nat.ne_of_gt (Nat.lt_trans U.i1 h), Nat.ne_of_gt (Nat.lt_trans U.i2 h)⟩
  intro k
  induction k with
  | zero =>
    intro i h tk c acc as hk hi hst hkeep hS hacc hal hG
    have hin : i = n := by omega
    refine codeAny_builtin PySem.F.entry_extend_loop ?_
    rw [Around.under_plainId PySem.F.plain_extend_loop _]
    show wpAny _ A.in1 (pyNext (.ref z) >>= _) _ _ _
    have hend : xs[i]? = none ∨ ys[i]? = none := by
      rcases Nat.le_total xs.size ys.size with hxy | hxy
      · exact .inl (Array.getElem?_eq_none (by omega))
      · exact .inr (Array.getElem?_eq_none (by omega))
    refine wpAny_bind (zs_end (s := { s with heap := h, toks := tk }) (A := A.in1) hh D hst hend fun h' he => ?_)
    refine wpAny_pure (hR h' tk acc c as (fun b o h0 h1 h2 h3 h4 e => he b o h1 h2 h3 h4 (hkeep b o h0 h1 h2 h3 h4 e)) (he S _ nz nTO ni1 ni2 hS) (by omega) ⟨hG.rise, hG.above, fun j a hj => ?_⟩ hacc)
    obtain ⟨x, y, e1, e2, e3⟩ := hG.pairs j a hj
    obtain ⟨a1, a2, a3, a4⟩ := up4 (hG.above a (List.mem_of_getElem? hj))
    exact ⟨x, y, e1, e2, he a _ a1 a2 a3 a4 e3⟩
  | succ k ih =>
    intro i h tk c acc as hk hi hst hkeep hS hacc hal hG
    have hx : i < xs.size := by omega
    have hy : i < ys.size := by omega
    have hsz : acc.size = i := by rw [← Array.length_toList, hacc, List.length_map, hal]
    refine codeAny_builtin PySem.F.entry_extend_loop ?_
    rw [Around.under_plainId PySem.F.plain_extend_loop _]
    show wpAny _ A.in1 (pyNext (.ref z) >>= _) _ _ _
    refine wpAny_bind (zs_item (s := { s with heap := h, toks := tk }) (A := A.in1) D hst (Heap.lt_size hS) (Array.getElem?_eq_getElem hx) (Array.getElem?_eq_getElem hy) fun h' hst' ht hz' hkp => ?_)
    dsimp only at ht hz' hkp ⊢
    have hS' := hkp S _ nz nTO ni1 ni2 hS
    have up : ∀ b o, b ≠ S → h'.get? b = some o → (h'.update S (Obj.mapSeq (·.push (Value.ref h.objs.size)))).get? b = some o := fun b o hb e => (Heap.get?_update_other _ _ (Ne.symm hb)).trans e
    have hSl : S < h.objs.size := Heap.lt_size hS
    show wpAny _ A.in1 (updateSeq S (·.push (Value.ref h.objs.size)) >>= _) _ _ _
    refine wpAny_bind ?_
    refine wpAny_updateSeq hS' rfl (wpAny_pure ⟨plainId_quiet PySem.F.plain_extend_loop _, ih (i + 1) _ tk _ (acc.push (Value.ref h.objs.size)) (as ++ [h.objs.size]) (by omega) (by omega) (hst'.keep U up)
      (fun b o h0 h1 h2 h3 h4 e => up b o h0 (hkp b o h1 h2 h3 h4 (hkeep b o h0 h1 h2 h3 h4 e))) (Heap.get?_update_self _ hS' rfl) (by rw [Array.toList_push, hacc, List.map_append]; rfl) (by rw [List.length_append, hal]; rfl) ⟨?_, ?_, ?_⟩⟩) (by rw [hsz]; omega) (by show (acc.push (Value.ref h.objs.size)).size ≤ sizeLine + 1; rw [Array.size_push, hsz]; omega)
    · refine List.pairwise_append.mpr ⟨hG.rise, List.pairwise_singleton _ _, fun a ha b hb => ?_⟩
      rw [List.mem_singleton.mp hb]
      exact hG.there ha
    · intro a ha
      rcases List.mem_append.mp ha with ha | ha
      · exact hG.above a ha
      · rw [List.mem_singleton.mp ha]; exact hSl
    · intro j b hj
      rcases Nat.lt_trichotomy j as.length with h1 | h1 | h1
      · rw [List.getElem?_append_left h1] at hj
        obtain ⟨x, y, e1, e2, e3⟩ := hG.pairs j b hj
        have hb := hG.above b (List.mem_of_getElem? hj)
        obtain ⟨a1, a2, a3, a4⟩ := up4 hb
        exact ⟨x, y, e1, e2, up b _ (Nat.ne_of_gt hb) (hkp b _ a1 a2 a3 a4 e3)⟩
      · subst h1
        have hb : h.objs.size = b := by simpa using hj
        subst hb
        exact ⟨xs[i], ys[i], by rw [hal]; exact Array.getElem?_eq_getElem hx, by rw [hal]; exact Array.getElem?_eq_getElem hy, up _ _ (Nat.ne_of_gt hSl) ht⟩
      · have hnone : (as ++ [h.objs.size])[j]? = none := List.getElem?_eq_none (by rw [List.length_append, List.length_singleton]; omega)
        rw [hnone] at hj; cases hj
theorem zip_no_len : typeLookup (.type "zip") "__len__" = pure none := am_miss_of_fast (by decide +kernel)
theorem zip_no_hint : typeLookup (.type "zip") "__length_hint__" = pure none := am_miss_of_fast (by decide +kernel)
theorem zs_extend {n : Nat} {R : Result → Shared → Prop} (hh : A.handled = none) (D : ZipApart z TI TO i1 i2 l1 l2) (U : Under z TI TO i1 i2 l1 l2 S) (hnd : n = min xs.size ys.size) (hn : n ≤ sizeLine) (res : Value)
    (hz : IsZip s.heap z TI TO .none) (hTI : IsPair s.heap TI (.ref i1) (.ref i2)) (hTO : ∃ a b, IsPair s.heap TO a b) (h1 : s.heap.IsListIter i1 l1 0) (h2 : s.heap.IsListIter i2 l2 0) (hl1 : s.heap.IsList l1 xs) (hl2 : s.heap.IsList l2 ys)
    (c₀ : Nat) (hS : s.heap.get? S = some { cls := .type "list", data := .seq #[] c₀ })
    (hR : ∀ h' tk acc c as, (∀ b o, b ≠ S → b ≠ z → b ≠ TO → b ≠ i1 → b ≠ i2 → s.heap.get? b = some o → h'.get? b = some o) → h'.get? S = some { cls := .type "list", dict := none, data := .seq acc c, slots := #[] } → as.length = n → ZG xs ys S h' as →
      acc.toList = as.map Value.ref → R (.ok (.ret res)) { s with heap := h', toks := tk }) :
    wpAny (model prog w) A.in1 (Builtin.List.listExtendWith (.ref S) (.ref z) res)
      (fun fin s' => match fin with | .done f => R (.ok f) s' | .again c' => c'.quiet = true ∧ codeAny (model prog w) A c' R s') (fun e s' => R (.error e) s') s := by
  have hT : s.TypeIs (.ref z) "zip" := ⟨_, hz, rfl⟩
  have st0 : ZSt z TI TO i1 i2 l1 l2 S xs ys 0 s.heap := ⟨hTI, h1, h2, hl1, hl2, .inl ⟨hz, hTO⟩⟩
  have nSz : S ≠ z := Nat.ne_of_gt U.z
  unfold Builtin.List.listExtendWith
  refine wpAny_bind (wpAny_typeOf hT ?_)
  have h1' : Builtin.List.listSameRef (.ref S) (.ref z) = false := by simp [Builtin.List.listSameRef, nSz]
  have h2' : (Value.type "zip" == Value.type "list") = false := by decide
  have h3' : (Value.type "zip" == Value.type "tuple") = false := by decide
  simp only [h1', h2', h3', Bool.or_false, Bool.false_eq_true, if_false]
  refine wpAny_bind (wpAny_pyIter_zip hz ?_)
  refine wpAny_bind (wpAny_holding ?_)
  unfold Builtin.List.listLengthHint
  refine wpAny_bind (wpAny_specialOf hT zip_no_len ?_)
  show wpAny _ A.in1 (specialOf (Value.ref z) (Str.ofString "__length_hint__") >>= _) _ _ _
  refine wpAny_bind (wpAny_specialOf hT zip_no_hint ?_)
  refine wpAny_pure ?_
  show wpAny _ A.in1 (rule "list.extend.makes-room" >>= fun _ => Builtin.List.listTouch (.ref S) >>= fun _ =>
    again (.builtin "list.extend.loop" ⟨[.ref S, .ref z, res], []⟩)) _ _ _
  refine wpAny_bind (wpAny_rule ?_)
  refine wpAny_bind ?_
  show wpAny _ A.in1 (updateSeq S (·.push .none) >>= fun _ => updateSeq S (·.pop)) _ _ _
  refine wpAny_bind (wpAny_updateSeq hS rfl ?_)
  have hS₂ := Heap.get?_update_self (Obj.mapSeq (·.push Value.none)) hS rfl
  refine wpAny_updateSeq hS₂ rfl ?_
  have hS₃ := Heap.get?_update_self (Obj.mapSeq (·.pop)) hS₂ rfl
  have oth : ∀ b o, b ≠ S → s.heap.get? b = some o → ((s.heap.update S (Obj.mapSeq (·.push Value.none))).update S (Obj.mapSeq (·.pop))).get? b = some o :=
    fun b o hb e => (Heap.get?_update_other _ _ (Ne.symm hb)).trans ((Heap.get?_update_other _ _ (Ne.symm hb)).trans e)
  exact wpAny_pure ⟨plainId_quiet PySem.F.plain_extend_loop _, zs_loop (s := s) (h₁ := s.heap) hh D U hnd hn res hR n 0 _ s.toks _ #[] [] (Nat.sub_zero _) (Nat.zero_le _) (st0.keep U oth) (fun b o h0 _ _ _ _ e => oth b o h0 e) hS₃ rfl rfl
    ⟨List.Pairwise.nil, (fun _ ha => nomatch ha), (fun j a hj => by simp at hj)⟩⟩
theorem zs_call {n : Nat} {Q : Value → Shared → Prop} (hh : A.handled = none) (D : ZipApart z TI TO i1 i2 l1 l2) (hnd : n = min xs.size ys.size) (hn : n ≤ sizeLine)
    (hz : IsZip s.heap z TI TO .none) (hTI : IsPair s.heap TI (.ref i1) (.ref i2)) (hTO : ∃ a b, IsPair s.heap TO a b) (h1 : s.heap.IsListIter i1 l1 0) (h2 : s.heap.IsListIter i2 l2 0) (hl1 : s.heap.IsList l1 xs) (hl2 : s.heap.IsList l2 ys)
    (hQ : ∀ h' tk acc c as, (∀ b o, b ≠ z → b ≠ TO → b ≠ i1 → b ≠ i2 → s.heap.get? b = some o → h'.get? b = some o) → h'.get? s.heap.objs.size = some { cls := .type "list", dict := none, data := .seq acc c, slots := #[] } → as.length = n →
      ZG xs ys s.heap.objs.size h' as → acc.toList = as.map Value.ref → Q (.ref s.heap.objs.size) { s with heap := h', toks := tk }) :
    wpAny (model prog w) A (call (.type "list") [.ref z]) Q E s := by
  refine callType_codes (Q₁ := fun obj s₁ => obj = .ref s.heap.objs.size ∧ s₁ = { s with heap := s.heap.push { cls := .type "list", data := .seq #[] } }) PySem.F.called_list (PySem.F.typeCall_list_1 _) PySem.F.entry_list_init
    (code_list_new _ ⟨rfl, rfl⟩) fun obj s₁ h₁ => ?_
  obtain ⟨rfl, rfl⟩ := h₁
  have hS : (s.heap.push { cls := .type "list", data := .seq #[] }).get? s.heap.objs.size = some { cls := .type "list", data := .seq #[] } := Heap.get?_push_size _ rfl
  obtain ⟨ta, tb, hTO'⟩ := hTO
  have U : Under z TI TO i1 i2 l1 l2 s.heap.objs.size := ⟨Heap.lt_size hz, Heap.lt_size hTI, Heap.lt_size hTO', let ⟨_, e, _⟩ := h1; Heap.lt_size e, let ⟨_, e, _⟩ := h2; Heap.lt_size e, let ⟨_, e, _⟩ := hl1; Heap.lt_size e, let ⟨_, e, _⟩ := hl2; Heap.lt_size e⟩
  refine ⟨⟨_, hS, rfl⟩, PySem.F.args_list_init_2 _ _, ?_⟩
  show wpAny _ _ (do let old ← Builtin.List.listItems (.ref s.heap.objs.size); Builtin.List.listUpdate (.ref s.heap.objs.size) (fun _ => #[]); letGo old.toList.reverse; Builtin.List.listExtendWith (.ref s.heap.objs.size) (.ref z) .none) _ _ _
  refine wpAny_bind ?_
  unfold Builtin.List.listItems
  refine wpAny_bind (wpAny_seqItems hS rfl (wpAny_pure ?_))
  show wpAny _ _ (updateSeq s.heap.objs.size (fun _ => #[]) >>= fun _ => letGo (#[] : Array Value).toList.reverse >>= fun _ => Builtin.List.listExtendWith (.ref s.heap.objs.size) (.ref z) .none) _ _ _
  refine wpAny_bind (wpAny_updateSeq hS rfl ?_)
  have hS₂ := Heap.get?_update_self (Obj.mapSeq (fun _ => (#[] : Array Value))) hS rfl
  have oth : ∀ b o, s.heap.get? b = some o → ((s.heap.push { cls := .type "list", data := .seq #[] }).update s.heap.objs.size (Obj.mapSeq (fun _ => (#[] : Array Value)))).get? b = some o :=
    fun b o e => (Heap.get?_update_other _ _ (Nat.ne_of_gt (Heap.lt_size e))).trans (Heap.get?_push_of_some _ e)
  refine wpAny_bind (wpAny_letGo ?_)
  refine zs_extend (A := A.in1) (s := { s with heap := (s.heap.push { cls := .type "list", data := .seq #[] }).update s.heap.objs.size (Obj.mapSeq (fun _ => (#[] : Array Value))) }) (n := n) hh D U hnd hn .none (oth _ _ hz) (oth _ _ hTI) ⟨ta, tb, oth _ _ hTO'⟩
    (h1.at fun o e => oth _ o e) (h2.at fun o e => oth _ o e) (hl1.at fun o e => oth _ o e) (hl2.at fun o e => oth _ o e) _ hS₂ (fun h' tk acc c as hk hS' hl hG hacc => ?_)
  exact ⟨rfl, hQ h' tk acc c as (fun b o b1 b2 b3 b4 e => hk b o (Nat.ne_of_lt (Heap.lt_size e)) b1 b2 b3 b4 (oth b o e)) hS' hl hG hacc⟩
end

/-! ### in the small language -/
def putZ : Hp → List Addr → List (V × V) → Hp
  | H, a :: as, p :: ps => putZ (upd H a (.tup [p.1, p.2])) as ps
  | H, _, _ => H
theorem putZ_off {b : Addr} : ∀ (as : List Addr) (ps : List (V × V)) (H : Hp), b ∉ as → putZ H as ps b = H b
  | [], _, _, _ => rfl
  | _ :: _, [], _, _ => rfl
  | a :: as, p :: ps, H, h => by
    show putZ (upd H a (.tup [p.1, p.2])) as ps b = H b
    rw [putZ_off as ps _ (fun z => h (List.mem_cons_of_mem _ z)), upd_ne (fun z => h (by rw [z]; exact List.mem_cons_self))]
theorem putZ_at : ∀ (as : List Addr) (ps : List (V × V)) (H : Hp), as.length = ps.length → as.Nodup → Paired (fun (t : Addr) (p : V × V) => putZ H as ps t = some (.tup [p.1, p.2])) as ps
  | [], [], _, _, _ => .nil
  | [], _ :: _, _, h, _ => by cases h
  | _ :: _, [], _, h, _ => by cases h
  | a :: as, p :: ps, H, h, hn => by
    have hn' := List.nodup_cons.mp hn
    have ih := putZ_at as ps (upd H a (.tup [p.1, p.2])) (Nat.succ.inj h) hn'.2
    refine .cons ?_ ih
    show putZ (upd H a (.tup [p.1, p.2])) as ps a = some (.tup [p.1, p.2])
    rw [putZ_off as ps _ hn'.1, upd_same]
theorem zips_of {K : PySem.W.Frag} {ρ : Rg} {H : Hp} : ∀ {ds es : List D} {vs us : List V}, RDs ρ K H ds vs → RDs ρ K H es us → Paired (fun (q : D × D) (p : V × V) => RD ρ K H q.1 p.1 ∧ RD ρ K H q.2 p.2) (ds.zip es) (vs.zip us)
  | [], _, _, _, h1, _ => by cases h1; exact .nil
  | _ :: _, [], _, _, h1, h2 => by
    cases h1; cases h2
    exact .nil
  | d :: ds, e :: es, _, _, h1, h2 => by
    cases h1 with
    | cons a1 a2 => cases h2 with
      | cons b1 b2 => exact .cons ⟨a1, b1⟩ (zips_of a2 b2)
theorem zipD_eq : ∀ (ds es : List D), zipD ds es = (ds.zip es).map fun q => .tup [q.1, q.2]
  | [], _ => rfl
  | _ :: _, [] => rfl
  | d :: ds, e :: es => by
    show D.tup [d, e] :: zipD ds es = _
    rw [zipD_eq ds es]; rfl
theorem putZ_rel {K : PySem.W.Frag} {ρ : Rg} {M : Mem} : ∀ (as : List Addr) (qs : List (D × D)) (ps : List (V × V)) (H : Hp), as.length = ps.length → as.Nodup → (∀ t ∈ as, H t = none) → Rel K ρ M H →
    Paired (fun (q : D × D) (p : V × V) => RD ρ K H q.1 p.1 ∧ RD ρ K H q.2 p.2) qs ps → Ext ρ H ρ (putZ H as ps) ∧ Rel K ρ M (putZ H as ps) ∧ RDs ρ K (putZ H as ps) (qs.map fun q => .tup [q.1, q.2]) (as.map V.ref)
  | [], _, [], H, _, _, _, r, h => by
    cases h
    exact ⟨Ext.refl _ _, r, .nil⟩
  | [], _, _ :: _, _, h, _, _, _, _ => by cases h
  | _ :: _, _, [], _, h, _, _, _, _ => by cases h
  | a :: as, _, p :: ps, H, h, hn, hf, r, hp => by
    cases hp with
    | @cons q _ qs _ h1 h2 =>
      have hn' := List.nodup_cons.mp hn
      have ha := hf a List.mem_cons_self
      have e1 : Ext ρ H ρ (upd H a (.tup [p.1, p.2])) := Ext.alloc ha
      have r1 : Rel K ρ M (upd H a (.tup [p.1, p.2])) := r.alloc ha
      have mono : ∀ {qs : List (D × D)} {ps : List (V × V)}, Paired (fun (q : D × D) (p : V × V) => RD ρ K H q.1 p.1 ∧ RD ρ K H q.2 p.2) qs ps → Paired (fun (q : D × D) (p' : V × V) => RD ρ K (upd H a (.tup [p.1, p.2])) q.1 p'.1 ∧ RD ρ K (upd H a (.tup [p.1, p.2])) q.2 p'.2) qs ps := by
        intro qs ps h
        induction h with
        | nil => exact .nil
        | cons a b ih => exact .cons ⟨r.mono e1 a.1, r.mono e1 a.2⟩ ih
      obtain ⟨e2, r2, d2⟩ := putZ_rel as qs ps (upd H a (.tup [p.1, p.2])) (Nat.succ.inj h) hn'.2 (fun t ht => by rw [upd_ne (fun z => hn'.1 (by rw [← z]; exact ht))]; exact hf t (List.mem_cons_of_mem _ ht)) r1 (mono h2)
      refine ⟨e1.trans e2, r2, .cons (r1.mono e2 (.tup (SqT.of upd_same) (.cons (r.mono e1 h1.1) (.cons (r.mono e1 h1.2) .nil)))) d2⟩
section
variable {X : Cx} {W : WX} {ml : WL} {a b : Expr} {p p2 pos pos2 : Pos}
theorem zip_laid {pins : List (Addr × Obj)} {σ : L2.St} {H : Hp} {s : Shared} {h' : Heap} {tk : Nat} {xs ys : List V} {us ws : List Value} {acc : Array Value} {c : Nat} {as : List Addr} (I : Inv X pins σ H s) (rx : Vals xs us) (ry : Vals ys ws) (hz : min us.length ws.length ≤ sizeLine)
    (hk : ∀ b o, s.heap.get? b = some o → h'.get? b = some o) {S : Addr} (hSge : s.heap.objs.size ≤ S) (hS : h'.get? S = some { cls := .type "list", dict := none, data := .seq acc c, slots := #[] }) (hl : as.length = min us.length ws.length)
    (hG : ZG us.toArray ws.toArray S h' as) (hacc : acc.toList = as.map Value.ref) :
    H S = none ∧ (∀ t ∈ as, H t = none) ∧ S ∉ as ∧ as.Nodup ∧ as.length = (xs.zip ys).length ∧ Inv X pins σ (upd (putZ H as (xs.zip ys)) S (.lst (as.map V.ref))) { s with heap := h', toks := tk } := by
  have lx := rx.length
  have ly := ry.length
  have hSn : S ∉ as := fun z => Nat.lt_irrefl _ (hG.above _ z)
  have nd : as.Nodup := List.Pairwise.imp (fun {a b} (h : a < b) => Nat.ne_of_lt h) hG.rise
  have new : ∀ t ∈ as, H t = none := fun t ht => I.hok.fresh (Nat.le_trans hSge (Nat.le_of_lt (hG.above t ht)))
  have newS : H S = none := I.hok.fresh hSge
  have ll : as.length = (xs.zip ys).length := by rw [List.length_zip]; omega
  have atP := putZ_at as (xs.zip ys) H ll nd
  have off : ∀ b, b ∉ as → b ≠ S → upd (putZ H as (xs.zip ys)) S (.lst (as.map V.ref)) b = H b := fun b h1 h2 => by rw [upd_ne h2, putZ_off as _ _ h1]
  have low : ∀ b o, s.heap.get? b = some o → b ∉ as ∧ b ≠ S := fun b o e => ⟨fun z => absurd (Heap.lt_size e) (Nat.not_lt.mpr (Nat.le_trans hSge (Nat.le_of_lt (hG.above b z)))), Nat.ne_of_lt (Nat.lt_of_lt_of_le (Heap.lt_size e) hSge)⟩
  have kp : ∀ b u, H b = some u → upd (putZ H as (xs.zip ys)) S (.lst (as.map V.ref)) b = some u := fun b u e => by
    rw [off b (fun z => by rw [new b z] at e; cases e) (fun z => by rw [z, newS] at e; cases e)]
    exact e
  refine ⟨newS, new, hSn, nd, ll, ?_⟩
  refine I.call' (ch := []) rfl ⟨fun b o q _ _ _ => hk b o q, fun b o q _ _ _ => ⟨o.slots, hk b o q⟩, fun b o q n _ => ?_, fun b o q _ => ⟨o, hk b o q⟩, fun b xs q => kp b _ q, fun b o u q => kp b _ q, fun b ps q => ⟨#[], by rw [kp b _ q]; simp⟩⟩ (fun b u q => ?_) I.bare fun b z => by simp at z
  · obtain ⟨z1, z2⟩ := low b o q
    rw [off b z1 z2]
    exact n
  · by_cases hb2 : b = S
    · rw [hb2] at q ⊢
      rw [upd_same] at q
      cases q
      refine ⟨by rw [List.length_map]; omega, acc.toList, c, by rw [hacc]; exact LiI.vals_refs as, ?_⟩
      rw [Array.toArray_toList]
      exact hS
    · by_cases hb : b ∈ as
      · obtain ⟨j, pk, e1, e2, e3⟩ := LiI.paired_ix atP hb
        rw [upd_ne hb2, e3] at q
        cases q
        obtain ⟨x, y, f1, f2, f3⟩ := hG.pairs j b e1
        obtain ⟨g1, g2⟩ : xs[j]? = some pk.1 ∧ ys[j]? = some pk.2 := by
          have := List.getElem?_zip_eq_some.mp e2
          exact this
        have q1 : us[j]? = some x := by simpa using f1
        have q2 : ws[j]? = some y := by simpa using f2
        obtain ⟨x', k1, k2⟩ := rx.get g1
        obtain ⟨y', k3, k4⟩ := ry.get g2
        rw [q1] at k1
        rw [q2] at k3
        cases k1; cases k3
        exact ⟨by show 2 ≤ sizeLine; decide, [x, y], .cons k2 (.cons k4 .nil), ⟨_, f3, rfl, _, rfl⟩⟩
      · rw [off b hb hb2] at q
        exact (I.hok b u q).stay (fun d v _ y => hk d v y) (fun d y => kp d _ y) fun d xs y => kp d _ y
theorem se_lzip (cd : Cd X) (hgl : Gl X "list") (hml : X.mg "list" = none) (hg : Gl X "zip") (hm : X.mg "zip" = none) (ha : PA X [a, b] (TML X W ml)) (hs : starEach [a, b] X.env = (false, eval a X.env) :: starEach [b] X.env) (hpl : (backTo pos2 (starEach [b] X.env)).any (·.1) = false) :
    PE X (.Call (.Name "list" p) [.Call (.Name "zip" p2) [a, b] [] pos2] [] pos) (TM X W fun σ M Xp Q => ml σ M Xp fun ds M1 => ∃ x y xs ys, ds = [x, y] ∧ lsOf M1 x = some xs ∧ lsOf M1 y = some ys ∧ Q (.fr (.lst (zipD xs ys))) M1) := by
  refine ⟨fun ps s σc H Qc J h => ?_⟩
  obtain ⟨ρ, M, σ, Q, Xp, r, sl, h, k, kx⟩ := h
  have h1 : TML X W ml σc H fun vs H1 => ∃ ρ1 M1 a1 a2 xs ys vx vy, Ext ρ H ρ1 H1 ∧ Rel X.K ρ1 M1 H1 ∧ vs = [.ref a1, .ref a2] ∧ H1 a1 = some (.lst vx) ∧ H1 a2 = some (.lst vy) ∧ RDs ρ1 X.K H1 xs vx ∧ RDs ρ1 X.K H1 ys vy ∧ Q (.fr (.lst (zipD xs ys))) M1 :=
    ⟨ρ, M, σ, _, Xp, r, sl, h, fun ρ1 M1 H1 ds vs e1 r1 hd q => by
      obtain ⟨x, y, xs, ys, rfl, hx, hy, q⟩ := q
      cases hd with
      | cons d1 d2 =>
        cases d2 with
        | cons d3 d4 =>
          cases d4
          obtain ⟨a1, vx, rfl, g1, g2⟩ := lsOf_read r1 d1 hx
          obtain ⟨a2, vy, rfl, g3, g4⟩ := lsOf_read r1 d3 hy
          exact ⟨ρ1, M1, a1, a2, xs, ys, vx, vy, e1, r1, rfl, g1, g3, g2, g4, q⟩, kx⟩
  refine Call_ (ld_blt J hgl hml (by decide +kernel : bootBuiltins "list" = some (.type "list")) (PyProof.Rows.callWith_type1 ?_ rfl rfl))
  refine Calls.spliced_cons (Call_ (ld_blt J hg hm PyProof.Rows.boot_zip (PyProof.Rows.callWith_type1 (thn (ha.run pos2 ps s σc H _ J h1) fun us s1 ⟨vs, H1, J1, rv, ρ1, M1, a1, a2, xs, ys, vx, vy, e1, r1, ev, g1, g3, g2, g4, q⟩ => ?_) hs hpl)))
  subst ev
  cases rv with
  | cons q1 q2 =>
    cases q2 with
    | cons q3 q4 =>
      cases q4
      cases q1
      cases q3
      obtain ⟨its, rx, p1, hz1⟩ := J1.list (SqL.of g1)
      obtain ⟨its2, ry, p2', hz2⟩ := J1.list (SqL.of g3)
      have la : a1 < s1.heap.objs.size := p1.lt
      have lb : a2 < s1.heap.objs.size := p2'.lt
      refine call_zip_2 p1.isList p2'.isList fun h' hz hTI hTO i1 i2 hsz hk => ?_
      refine Calls.spliced_nil ?_
      have hmin : min its.length its2.length ≤ sizeLine := Nat.le_trans (Nat.min_le_left _ _) (by rw [← rx.length]; exact hz1)
      refine zs_call (s := { s1 with heap := h' }) (n := min its.length its2.length) (J1.ok.hd cd.calm) (PySem.W.ktu_apart s1.heap.objs.size a1 a2 la lb) (by simp) hmin hz hTI ⟨_, _, hTO⟩ i1 i2 (p1.isList.at fun o e => hk _ o e) (p2'.isList.at fun o e => hk _ o e) fun h'' tk acc c as hk2 hS hl hG hacc => ?_
      have hkk : ∀ b o, s1.heap.get? b = some o → h''.get? b = some o := fun b o e => by
        have := Heap.lt_size e
        exact hk2 b o (Nat.ne_of_lt (Nat.lt_of_lt_of_le this (Nat.le_add_right _ 4))) (Nat.ne_of_lt (Nat.lt_of_lt_of_le this (Nat.le_add_right _ 3))) (Nat.ne_of_lt this) (Nat.ne_of_lt (Nat.lt_of_lt_of_le this (Nat.le_add_right _ 1))) (hk b o e)
      obtain ⟨n1, n2, n3, n4, n5, J2⟩ := zip_laid (tk := tk) J1 rx ry hmin hkk (by show s1.heap.objs.size ≤ h'.objs.size; rw [hsz]; exact Nat.le_add_right _ _) hS hl hG hacc
      obtain ⟨e2, r2, d2⟩ := putZ_rel as (xs.zip ys) (vx.zip vy) H1 n5 n4 n2 r1 (zips_of g2 g4)
      rw [← zipD_eq] at d2
      exact ⟨V.ref _, _, J2, rfl, (k.later (e1.trans e2)).lst r2 d2 q (by rw [putZ_off as _ _ n3]; exact n1)⟩
end
end Lay

set_option Elab.async false
set_option maxRecDepth 100000
set_option maxHeartbeats 4000000
set_option linter.all false
/-! Lay, part Rv: xs[::-1], of tuples and lists. -/
namespace Lay
open PySem L2 PyProof.Rows HT
theorem fm_congr {α β : Type} {f g : α → Option β} : ∀ {l : List α}, (∀ x ∈ l, f x = g x) → l.filterMap f = l.filterMap g
  | [], _ => rfl
  | x :: l, h => by
    rw [List.filterMap_cons, List.filterMap_cons, h x List.mem_cons_self, fm_congr fun y hy => h y (List.mem_cons_of_mem _ hy)]
theorem rev_pick (xs : Array Value) : ((List.range xs.size).filterMap fun (k : Nat) => xs[((xs.size : Int) - 1 + (k : Int) * (-1)).toNat]?) = xs.toList.reverse := by
  have e : ∀ k ∈ List.range xs.size, xs[((xs.size : Int) - 1 + (k : Int) * (-1)).toNat]? = xs[xs.size - 1 - k]? := fun k hk => by
    have := List.mem_range.mp hk
    rw [show ((xs.size : Int) - 1 + (k : Int) * (-1)).toNat = xs.size - 1 - k by omega]
  rw [fm_congr e]
  have e2 : (List.range xs.size).filterMap (fun k => xs[xs.size - 1 - k]?) = ((List.range xs.size).map (fun k => xs.size - 1 - k)).filterMap (xs[·]?) := by
    rw [List.filterMap_map]; rfl
  rw [e2, PySem.W.krv_range, List.filterMap_reverse, PySem.W.krv_all]
theorem rev_places (n : Nat) : Builtin.Slice.slicePlaces ((n : Int) - 1) (-1) (-1) = n := by
  unfold Builtin.Slice.slicePlaces
  have h1 : ¬ ((-1 : Int) > 0) := by decide
  rw [if_neg h1]
  by_cases h : (n : Int) - 1 > -1
  · rw [if_pos h, show (- -1 : Int) = 1 by decide, Int.ediv_one]
    omega
  · rw [if_neg h]
    omega
section
variable {prog : Program} {w : World} {A : Around} {E : Value → Shared → Prop} {s : Shared}
theorem sliceApplied_rev {sl : Addr} {vs : Value} {n : Nat} {Q : Int × Int × Nat → Shared → Prop} (hs : s.heap.IsSliceOf sl .none .none vs) (ps : IsPart vs (some (-1)))
    (h : Q ((n : Int) - 1, -1, n) s) : wpAny (model prog w) A (Builtin.Slice.sliceApplied (.ref sl) (pure (n : Int))) Q E s := by
  obtain ⟨os, hos, hcs, hds⟩ := id hs
  unfold Builtin.Slice.sliceApplied Builtin.Slice.sliceFields
  refine wpAny_bind (wpAny_bind (wpAny_field hos hds (x := .none) rfl (wpAny_bind (wpAny_field hos hds (x := .none) rfl (wpAny_bind (wpAny_field hos hds (x := vs) rfl (wpAny_pure ?_)))))))
  refine wpAny_bind (slicePart_ ps ?_)
  show wpAny _ _ (if ((-1 : Int) == 0) = true then _ else _) _ _ s
  rw [if_neg (by decide)]
  refine wpAny_bind (slicePart_ .none (wpAny_bind (slicePart_ .none (wpAny_bind (wpAny_pure ?_)))))
  show wpAny _ _ (pure ((n : Int) - 1, (-1 : Int), Builtin.Slice.slicePlaces ((n : Int) - 1) (-1) (-1))) _ _ s
  rw [rev_places]
  exact wpAny_pure h
theorem getItem_tuple_rev {t sl : Addr} {items : Array Value} {vs : Value} {Q : Value → Shared → Prop} (ht : IsTup s.heap t items) (hs : s.heap.IsSliceOf sl .none .none vs) (ps : IsPart vs (some (-1)))
    (h : Q (.ref s.heap.objs.size) { s with heap := s.heap.push { cls := .type "tuple", data := .seq items.toList.reverse.toArray } })
    (hsz : items.size ≤ sizeLine) : wpAny (model prog w) A (getItem (.ref t) (.ref sl)) Q E s := by
  have htake : sizeOk (.seq items.toList.reverse.toArray) := by
    show items.toList.reverse.toArray.size ≤ sizeLine
    rw [List.size_toArray, List.length_reverse, Array.length_toList]
    exact hsz
  obtain ⟨os, hos, hcs, hds⟩ := id hs
  have hTs : s.TypeIs (.ref sl) "slice" := ⟨os, hos, hcs⟩
  unfold getItem
  try with_reducible refine wpAny_holding ?_
  first | refine wpAny_bind (wpAny_pure ?_) | skip
  refine wpAny_bind (wpAny_sequenceKey ht.typeIs (by decide) ?_)
  refine wpAny_bind (wpAny_callSpecial?_slot (name := Str.ofString "__getitem__") ht.typeIs PyProof.Rows.slot_tuple_getitem
    (wpAny_call_entry PyProof.Rows.slot_tuple_getitem ht.typeIs entry_tuple_getitem ?_ (args_tuple_getitem _ _)))
  show wpAny _ _ (Builtin.Tuple.tupleItemsOf (.ref t) >>= _) _ _ s
  refine wpAny_bind (tupleItemsOf_ ht ?_)
  refine wpAny_bind (wpAny_typeOf hTs ?_)
  rw [if_pos (by decide)]
  refine wpAny_bind (sliceApplied_rev hs ps ?_)
  have hno : ¬ ((((items.size : Int) - 1) == 0 && (-1 : Int) == 1 && items.size == items.size) = true) := by
    intro q
    rw [Bool.and_eq_true, Bool.and_eq_true] at q
    exact absurd q.1.2 (by decide)
  show wpAny _ _ (if (((items.size : Int) - 1) == 0 && (-1 : Int) == 1 && items.size == items.size) = true then _ else _) _ _ s
  rw [if_neg hno, rev_pick]
  first
    | exact wpAny_bind (m := Builtin.Tuple.tupleExact _) (wpAny_newObj_type (wpAny_pure ⟨_, rfl, wpAny_pure h⟩) htake)
    | exact wpAny_bind (m := Builtin.Tuple.tupleExact _) (wpAny_newObj_type (wpAny_bind (wpAny_pure (wpAny_pure ⟨_, rfl, wpAny_pure h⟩))) htake)
    | exact wpAny_bind (wpAny_bind (m := Builtin.Tuple.tupleExact _) (wpAny_newObj_type (wpAny_pure (wpAny_pure ⟨_, rfl, wpAny_pure h⟩)) htake))
    | exact wpAny_bind (wpAny_bind (m := Builtin.Tuple.tupleExact _) (wpAny_newObj_type (wpAny_pure ⟨_, rfl, wpAny_pure h⟩) htake))
end
section
variable {X : Cx} {W : WX} {ma : WE} {a : Expr}
def tRevA (K : PySem.W.Frag) (te : TE) : TE := fun σ H Q => te σ H fun x H1 => ∃ a xs, x = .ref a ∧ ((SqL K H1 a xs ∧ ∀ p, H1 p = none → Q (.ref p) (upd H1 p (.lst xs.reverse))) ∨ (SqT K H1 a xs ∧ ∀ p, H1 p = none → Q (.ref p) (upd H1 p (.tup xs.reverse))))
theorem pe_revA {e : Expr} {te : TE} {k : Nat} {p1 p2 p3 pos : Pos} (he : PE X e te) : PE X (.Subscript e (.Slice none none (some (.UnaryOp .USub (.Constant (.int 1) k p1) p2)) p3) pos) (tRevA X.K te) := by
  refine ⟨fun pins s σ H Q I h => ?_⟩
  refine Subscript_ (thn (he.run pins s σ H _ I h) fun v s1 ⟨x, H1, I1, r1, q1⟩ => ?_)
  obtain ⟨a, xs, ex, q1⟩ := q1
  subst ex
  cases r1
  have hst : PO X (some (.UnaryOp .USub (.Constant (.int 1) k p1) p2)) (tPart (tUn (rU fun i => .int (-i)) (tC (.int 1)))) := po_some (pe_un un_neg pe_int)
  refine wpAny_Slice (thn (po_none.run pins s1 σ H1 (fun o H2 => o = none ∧ H2 = H1) I1 ⟨rfl, rfl⟩) fun vl s2 ⟨l, H2, I2, pl, el, e2⟩ => ?_)
  subst el e2
  refine thn (po_none.run pins s2 σ H2 (fun o H3 => o = none ∧ H3 = H2) I2 ⟨rfl, rfl⟩) fun vu s3 ⟨u, H3, I3, pu, eu, e3⟩ => ?_
  subst eu e3
  refine thn (hst.run pins s3 σ H3 (fun o H4 => o = some (-1) ∧ H4 = H3) I3 ⟨1, rfl, -1, rfl, rfl, rfl⟩) fun vs s4 ⟨o, H4, I4, ps, eo, e4⟩ => ?_
  subst eo e4
  have I5 : Inv X pins σ H4 { s4 with heap := s4.heap.push { cls := .type "slice", data := .fields #[vl, vu, vs] } } := I4.kept (t' := s4.toks) fun b ob q => Heap.get?_push_of_some _ q
  show wpAny (model X.prog X.w) X.A (subscriptTail e (.Slice none none (some (.UnaryOp .USub (.Constant (.int 1) k p1) p2)) p3) (.ref a) (.ref s4.heap.objs.size)) (EP X pins σ Q) X.xe { s4 with heap := s4.heap.push { cls := .type "slice", data := .fields #[vl, vu, vs] } }
  rcases q1 with ⟨hx, q⟩ | ⟨hx, q⟩
  · obtain ⟨its, r, ht, hz⟩ := I5.list hx
    have hlen := r.length
    refine tail_any (ops := [.ref a, .ref s4.heap.objs.size]) ht.isList.typeIs (PySem.slot_list_getitem.lookup) ?_ (by with_unfolding_all rfl)
    refine wpAny_getItem_list_slice ht.isList (Heap.IsSliceOf.new _ vl vu vs) pl pu ps (by decide) ?_ (by rw [List.size_toArray]; omega)
    rw [PySem.W.krv_pick]
    refine ⟨.ref _, _, I5.laid (t' := s4.toks) (o := .lst xs.reverse) (fun b ob q => Heap.get?_push_of_some _ q) (Nat.le_refl _) ?_, rfl, q _ (I5.hok.fresh (Nat.le_refl _))⟩
    exact ⟨by rw [List.length_reverse]; exact hz, _, 0, r.reverse, Heap.get?_push_size _ rfl⟩
  · obtain ⟨its, r, ht, hz⟩ := I5.tuple hx
    have hlen := r.length
    have hvl : vl = .none := by cases pl; rfl
    have hvu : vu = .none := by cases pu; rfl
    subst hvl hvu
    refine tail_any (ops := [.ref a, .ref s4.heap.objs.size]) ht.typeIs (PyProof.Rows.slot_tuple_getitem.lookup) ?_ (by with_unfolding_all rfl)
    refine getItem_tuple_rev ht (Heap.IsSliceOf.new _ .none .none vs) ps ?_ (by rw [List.size_toArray]; omega)
    refine ⟨.ref _, _, I5.laid (t' := s4.toks) (o := .tup xs.reverse) (fun b ob q => Heap.get?_push_of_some _ q) (Nat.le_refl _) ?_, rfl, q _ (I5.hok.fresh (Nat.le_refl _))⟩
    exact ⟨by rw [List.length_reverse]; exact hz, _, r.reverse, IsTup.new _ _⟩
abbrev mRev (ma : WE) : WE := fun σ M Xp Q => ma σ M Xp fun x M1 => (∃ xs, x = .tup xs ∧ Q (.tup xs.reverse) M1) ∨ (∃ xs, lsOf M1 (shr x) = some xs ∧ Q (.fr (.lst xs.reverse)) M1)
theorem se_rev {k : Nat} {p1 p2 p3 pos : Pos} (ha : PE X a (TM X W ma)) : PE X (.Subscript a (.Slice none none (some (.UnaryOp .USub (.Constant (.int 1) k p1) p2)) p3) pos) (TM X W (mRev ma)) := by
  refine (pe_revA ha).sub fun σc H Qc h => ?_
  obtain ⟨ρ, M, σ, Q, Xp, r, s, h, k, kx⟩ := h
  refine ⟨ρ, M, σ, _, Xp, r, s, h, fun ρ1 M1 H1 d v e1 r1 d1 _ h1 => ?_, kx⟩
  have kk := k.later e1
  rcases h1 with ⟨xs, ex, q⟩ | ⟨xs, ex, q⟩
  · have hd := d1.1
    rw [ex] at hd
    obtain ⟨b, vs, rfl, h4, h5⟩ := RD.toTup hd
    exact ⟨b, vs, rfl, .inr ⟨h4, fun p hp => kk.tup r1 h5.rev q hp⟩⟩
  · obtain ⟨b, vs, rfl, h4, h5⟩ := lsOf_read r1 d1.1 ex
    exact ⟨b, vs, rfl, .inl ⟨SqL.of h4, fun p hp => kk.lst r1 h5.rev q hp⟩⟩
end
end Lay

set_option Elab.async false
set_option maxRecDepth 100000
set_option maxHeartbeats 2000000
set_option linter.all false
/-! Lay, part Ss: sorted(set(t)) of a tuple of whole numbers, fewer than 64. -/
namespace Lay
open PySem L2 RZ PyProof.Rows
section
variable {X : Cx} {W : WX} {ml : WL} {a : Expr} {p p2 pos pos2 : Pos}
theorem allInts_mapS : ∀ is : List Int, allInts (is.map D.int) = some is
  | [] => rfl
  | i :: is => by
    show (allInts (is.map D.int)).map (i :: ·) = some (i :: is)
    rw [allInts_mapS is]; rfl
def rSetT (X : Cx) : List V → Hp → VK → Prop := fun vs H Q => ∃ (a : Addr) (ns : List Int), vs = [.ref a] ∧ SqT X.K H a (ns.map V.int) ∧ ns.length < 64 ∧
  ∀ (p : Addr) (c : Nat), H p = none → c ≤ ns.length → Q (.ref p) (upd H p (SetO X.w p (fun j => decide (j ∈ ns)) c))
theorem cr_setT (hc : X.calm = true) : CallR X (.type "set") (rSetT X) := by
  intro pins s σ H vs us Q I r h
  obtain ⟨a, ns, rfl, hs, hn, q⟩ := h
  obtain ⟨its, rv, hT, hz⟩ := I.tuple hs
  rw [Vals.ref1 r]
  refine call_set_tupI ns (I.ok.hd hc) hT (ints_vals rv) (by show _ < 4096; omega) fun h' tk c R hcn kp => ?_
  exact ⟨.ref _, _, I.laid (t' := tk) kp (Nat.le_refl _) (setO_new R), rfl, q _ c (I.hok.fresh (Nat.le_refl _)) hcn⟩
end
end Lay

set_option Elab.async false
set_option maxRecDepth 100000
set_option linter.all false
/-! Lay, part Sl: set(xs) of a list of whole numbers, fewer than 64. -/
namespace Lay
open PySem L2 RZ PyProof.Rows
/-- a new set -/
abbrev nSet (w : World) : Obj := { cls := .type "set", dict := none, data := .set #[] 0 (.fresh 0 0 (!w.params.followText "set-order")) }
section
variable {P : Program} {w : World} {A : Around} {E : Value → Shared → Prop} {s : Shared}
set_option maxHeartbeats 4000000 in
theorem set_of_list {a0 : Addr} {its : Array Value} (zs : List Int) {Q : Value → Shared → Prop} (hA : A.handled = none) (ol : s.heap.IsList a0 its) (oi : IntsAre its.toList zs) (ob : zs.length + 1 < scanBound)
    (fin : ∀ (g : Heap) (u c : Nat), SetR w g s.heap.objs.size (fun j => decide (j ∈ zs)) c → c ≤ zs.length → (∀ b o, s.heap.get? b = some o → g.get? b = some o) → Q (.ref s.heap.objs.size) { s with heap := g, toks := u }) :
    wpAny (model P w) A (call (.type "set") [.ref a0]) Q E s := by
  have size : its.size = zs.length := by
    have e := oi.length
    rwa [Array.length_toList] at e
  obtain ⟨mc, ml, hmro⟩ := F.called_set.mro
  have hmade := F.called_set.made
  have hsub := F.called_set.sub
  refine wpAny_call (codeAny_of_tree ?_)
  show wpAny _ _ (callAny (.type "set") _) _ _ _
  refine wpAny_pure ⟨Code.quiet_builtin _ (by decide +kernel), codeAny_builtin F.entry_type_call ?_⟩
  rw [Around.under_plain (weight_type_call_type "set" [.ref a0] []) rfl]
  have f1 := F.called_set.notType
  have f2 := F.called_set.canCreate
  have f3 := F.typeCall_set_1 (.ref a0)
  repeat (any_goals (first | assumption | wp_step))
  refine codeAny_mono (code_set_led1 (.ref a0) (E := E) (Q₁ := fun x s1 => x = .ref s.heap.objs.size ∧ s1 = { s with heap := s.heap.push (nSet w) }) ⟨rfl, rfl⟩) fun r s1 hr => ?_
  rcases r with e | (x | _ | _ | _) <;> first | exact hr | exact hr.elim | skip
  obtain ⟨rfl, rfl⟩ := hr
  have g0 : (s.heap.push (nSet w)).get? s.heap.objs.size = some (nSet w) := Heap.get?_push_size _ rfl
  have t0 : Shared.TypeIs { s with heap := s.heap.push (nSet w) } (.ref s.heap.objs.size) "set" := ⟨_, g0, rfl⟩
  have f4 := F.called_set.init.lookup
  have f5 := F.called_set.init.bind (.ref s.heap.objs.size)
  repeat (any_goals (first | assumption | wp_step))
  refine codeAny_mono (codeAny_call_builtin (R := wants (fun r s2 => r = .none ∧ ∃ g u c, s2 = { s with heap := g, toks := u } ∧ SetR w g s.heap.objs.size (fun j => decide (j ∈ zs)) c ∧ c ≤ zs.length ∧
      (∀ b o, s.heap.get? b = some o → g.get? b = some o)) E) F.called_set.init.plain F.entry_set_init (check_set_init_1 t0 ?_)) fun r s2 hr => ?_
  · have ol2 := ol
    obtain ⟨oo, ho, hc, n0, hd⟩ := ol2
    obtain ⟨oc, od, oda, osl⟩ := oo
    simp only at hc hd
    subst hc; subst hd
    have ho' : (s.heap.push (nSet w)).get? a0 = some { cls := .type "list", dict := od, data := .seq its n0, slots := osl } := Heap.get?_push_of_some _ ho
    have f6 := F.sub_list_set
    have f7 := F.sub_list_frozenset
    have f8 : (Value.type "list" == Value.type "dict") = false := by decide
    have l1 : (s.heap.push (nSet w)).IsList a0 its := ⟨_, ho', rfl, n0, rfl⟩
    have lt0 : a0 < s.heap.objs.size := Heap.lt_size ho
    have h3 : A.in1.in1.in1.handled = none := by simp [hA]
    have z1 : (s.heap.push (nSet w)).objs.size = s.heap.objs.size + 1 := Heap.size_push ..
    unfold Builtin.«set.__init__» noKeywords Builtin.Frozenset.updateFrom
    generalize hPI : pyIter = PI
    wp_walk
    subst hPI
    refine wpAny_pyIter_list l1 (wpAny_bind (wpAny_runValue ?_))
    have ne1 : a0 ≠ (s.heap.push (nSet w)).objs.size := by rw [z1]; exact Nat.ne_of_lt (Nat.lt_succ_of_lt lt0)
    have ne2 : s.heap.objs.size ∉ [(s.heap.push (nSet w)).objs.size, a0] := by
      rw [z1]
      simp only [List.mem_cons, List.not_mem_nil, or_false, not_or]
      exact ⟨Nat.ne_of_lt (Nat.lt_succ_self _), Nat.ne_of_gt lt0⟩
    have val : ∀ (i : Nat) (v : Value), its[i]? = some v → ∃ k t, zs[i]? = some k ∧ v = .int k t := fun i v hv => by
      have hi : i < zs.length := by rw [← size]; exact (Array.getElem?_eq_some_iff.mp hv).1
      obtain ⟨t, e⟩ := oi.int_at i v (by rw [Array.getElem?_toList]; exact hv)
      refine ⟨zs[i], t, List.getElem?_eq_getElem hi, ?_⟩
      rw [e, List.getD_eq_getElem?_getD, List.getElem?_eq_getElem hi]
      rfl
    refine set_update_ints ((Walks.list h3 _ a0 ne1 its).toS) s.heap.objs.size ne2 zs size ob val (its.size - 0) 0 _ (by omega) (Nat.zero_le _) ⟨⟨_, Heap.get?_push_size _ rfl, rfl, rfl⟩, (l1.push _)⟩ ⟨0, Nat.le_refl 0, setR_new_at (Heap.get?_push_of_some _ g0)⟩ ?_
    intro s3 c' hm hc3 R3
    obtain ⟨g, g2, d3, u3, os3⟩ := s3
    obtain rfl : g2 = s.gens := hm.gens
    obtain rfl : d3 = s.drawn := hm.drawn
    obtain rfl : os3 = s.os := hm.os
    show wpAny _ _ _ _ _ _
    refine wpAny_pure ?_
    show wpAny _ _ (ret Value.none) _ _ _
    rw [size] at hc3
    refine wpAny_pure ⟨rfl, g, u3, c', rfl, R3, hc3, fun b o e => ?_⟩
    have lb : b < s.heap.objs.size := Heap.lt_size e
    refine hm.heap b o ?_ (Heap.get?_push_of_some _ (Heap.get?_push_of_some _ e))
    rw [z1]
    simp only [List.mem_cons, List.not_mem_nil, or_false, not_or]
    exact ⟨Nat.ne_of_lt lb, Nat.ne_of_lt (Nat.lt_succ_of_lt lb)⟩
  · rcases r with e | (x | _ | _ | _) <;> first | exact hr | exact hr.elim | skip
    obtain ⟨rfl, g, u, c', rfl, R3, hc3, hk3⟩ := hr
    repeat (any_goals (first | assumption | wp_step))
    exact fin _ _ _ R3 hc3 hk3
variable {X : Cx} {W : WX} {ml : WL} {a : Expr} {p p2 pos pos2 : Pos}
theorem cr_setL (hc : X.calm = true) : CallR X (.type "set") (fun vs H Q => ∃ (a : Addr) (ns : List Int), vs = [.ref a] ∧ SqL X.K H a (ns.map V.int) ∧ ns.length < 64 ∧
    ∀ (p : Addr) (c : Nat), H p = none → c ≤ ns.length → Q (.ref p) (upd H p (SetO X.w p (fun j => decide (j ∈ ns)) c))) := by
  intro pins s σ H vs us Q I r h
  obtain ⟨a, ns, rfl, hs, hn, q⟩ := h
  obtain ⟨its, rv, pl, hz⟩ := I.list hs
  rw [Vals.ref1 r]
  refine set_of_list ns (I.ok.hd hc) pl.isList (ints_vals rv) (by show _ < 4096; omega) fun h' tk c R hcn kp => ?_
  exact ⟨.ref _, _, I.laid (t' := tk) kp (Nat.le_refl _) (setO_new R), rfl, q _ c (I.hok.fresh (Nat.le_refl _)) hcn⟩
theorem cr_setA (hc : X.calm = true) : CallR X (.type "set") (fun vs H Q => ∃ (a : Addr) (ns : List Int), vs = [.ref a] ∧ (SqT X.K H a (ns.map V.int) ∨ SqL X.K H a (ns.map V.int)) ∧ ns.length < 64 ∧
    ∀ (p : Addr) (c : Nat), H p = none → c ≤ ns.length → Q (.ref p) (upd H p (SetO X.w p (fun j => decide (j ∈ ns)) c))) := by
  intro pins s σ H vs us Q I r h
  obtain ⟨a, ns, ev, hs | hs, hn, q⟩ := h
  · exact cr_setT hc pins s σ H vs us Q I r ⟨a, ns, ev, hs, hn, q⟩
  · exact cr_setL hc pins s σ H vs us Q I r ⟨a, ns, ev, hs, hn, q⟩
theorem se_sset (cd : Cd X) (hgl : Gl X "sorted") (hml : X.mg "sorted" = none) (hg : Gl X "set") (hm : X.mg "set" = none) (ha : PA X [a] (TML X W ml)) (hs : starEach [a] X.env = [(false, eval a X.env)]) :
    PE X (.Call (.Name "sorted" p) [.Call (.Name "set" p2) [a] [] pos2] [] pos) (TM X W fun σ M Xp Q => ml σ M Xp fun ds M1 => ∃ (is : List Int) (d : D), ds = [d] ∧ sqOf M1 d = some (is.map .int) ∧ is.length < 64 ∧ ∀ is' : List Int, is'.Pairwise (· < ·) → (∀ k, k ∈ is' ↔ k ∈ is) → Q (.fr (.lst (is'.map .int))) M1) := by
  refine ⟨fun ps s σc H Qc J h => ?_⟩
  obtain ⟨ρ, M, σ, Q, Xp, r, sl, h, k, kx⟩ := h
  have h1 : TML X W ml σc H fun vs H1 => ∃ (ρ1 : Rg) (M1 : Mem) (a1 : Addr) (is : List Int), Ext ρ H ρ1 H1 ∧ Rel X.K ρ1 M1 H1 ∧ vs = [.ref a1] ∧ (SqT X.K H1 a1 (is.map V.int) ∨ SqL X.K H1 a1 (is.map V.int)) ∧ is.length < 64 ∧ ∀ is' : List Int, is'.Pairwise (· < ·) → (∀ k, k ∈ is' ↔ k ∈ is) → Q (.fr (.lst (is'.map .int))) M1 :=
    ⟨ρ, M, σ, _, Xp, r, sl, h, fun ρ1 M1 H1 ds vs e1 r1 hd q => by
      obtain ⟨is, d, rfl, hq, hn, q⟩ := q
      cases hd with
      | cons d1 d2 =>
        cases d2
        obtain ⟨a1, xs, rfl, h2, h3⟩ := sqOf_read r1 d1 hq
        have := ints_rel h3 (allInts_mapS is)
        subst this
        exact ⟨ρ1, M1, a1, is, e1, r1, rfl, h2.symm, hn, q⟩, kx⟩
  refine Call_ (ld_blt J hgl hml (by decide +kernel : bootBuiltins "sorted" = some (.builtin "sorted")) (PyProof.Rows.callWith_builtin1 ?_ rfl rfl))
  refine Calls.spliced_cons (Call_ (ld_blt J hg hm (by decide +kernel : bootBuiltins "set" = some (.type "set")) (PyProof.Rows.callWith_type1 (thn (ha.run pos2 ps s σc H _ J h1) fun us s1 ⟨vs, H1, J1, rv, ρ1, M1, a1, is, e1, r1, ev, g1, hn, q⟩ => ?_) hs rfl)))
  subst ev
  refine thn (cr_setA cd.calm ps s1 σc H1 _ us (fun x H2 => ∃ (p : Addr) (c : Nat), x = .ref p ∧ H1 p = none ∧ c ≤ is.length ∧ H2 = upd H1 p (SetO X.w p (fun j => decide (j ∈ is)) c)) J1 rv ⟨a1, is, rfl, g1, hn, fun p c hp hc => ⟨p, c, rfl, hp, hc, rfl⟩⟩) fun v s2 ⟨x, H2, J2, rv2, p3, c, ex, hp3, hc, eH⟩ => ?_
  subst ex eH
  cases rv2
  refine Calls.spliced_nil ?_
  have e2 : Ext ρ1 H1 ρ1 (upd H1 p3 (SetO X.w p3 (fun j => decide (j ∈ is)) c)) := Ext.alloc hp3
  have r2 := r1.alloc (o := SetO X.w p3 (fun j => decide (j ∈ is)) c) hp3
  refine cr_sortedSet cd.calm ps s2 σc _ [.ref p3] _ Qc J2 (.cons rfl .nil) ⟨p3, fun j => decide (j ∈ is), c, rfl, upd_same, by omega, fun ns p4 h1 h2 h3 hp4 => ?_⟩
  exact (k.later (e1.trans e2)).lst r2 (rds_ints ns) (q ns h1 fun k => by rw [h2 k]; simp) hp4
end
end Lay

set_option Elab.async false
set_option maxRecDepth 100000
set_option maxHeartbeats 4000000
set_option linter.all false
/-! Lay, part Xa: an exception of the program's, made: its __init__ says super().__init__(text), and perhaps keeps one field. -/
namespace Lay
open PySem L2 PyProof.Rows

/-- super().__init__(msg) -/
abbrev supSt (msg : Str) (k : Nat) (p0 p1 p2 p3 p4 p5 : Pos) : Stmt := .Expr (.Call (.Attribute (.Call (.Name "super" p0) [] [] p1) "__init__" p2) [.Constant (.str msg) k p3] [] p4) p5
/-- self.f = f -/
abbrev fldSt (f : Str) (p6 p7 p8 p9 : Pos) : Stmt := .Assign [.Attribute (.Name "self" p6) f p7] (.Name f p8) p9
/-- what the written part says of such a class at C; fld: its field, if it has one -/
structure Xc (P : Program) (K : PySem.W.Frag) (C : Addr) (fld : Option Str) : Prop where
  ox : OexC K C
  ini : ∃ (fI cc cda : Addr) (oc : Value) (od : Option Addr) (osl : Array (Option Value)) (q msg : Str) (params : Arguments) (body : List Stmt) (scope : Scope) (kV doc pm ct ccl cl : Value) (an cdd cld : Option Addr) (vs : Array Value) (ccs csl : Array (Option Value)) (file : Str) (tf : Tok) (k : Nat) (p0 p1 p2 p3 p4 p5 p6 p7 p8 p9 pa pb : Pos),
    PySem.W.findIn K (.ref C) "__init__" = some (some (.ref fI)) ∧ PySem.W.typeIn K (.ref fI) = some (.type "function") ∧
    K.lookup fI = some ⟨oc, od, .func (PySem.W.fnX "__init__" q params body scope [("__class__", cc)] .none kV doc pm an (.ref cda) ct), osl⟩ ∧ PySem.W.codeIn K (.ref cda) q = true ∧
    K.lookup cda = some ⟨ccl, cdd, .fields vs, ccs⟩ ∧ vs[2]? = some (.str file tf) ∧ ((P.main.file : Str) == file) = true ∧ (P.main.scope.names.lookup ("super" : Str)).isSome = false ∧
    K.lookup cc = some ⟨cl, cld, .cell (some (.ref C)), csl⟩ ∧
    scope.kind = .function ∧ scope.isCoroutine = false ∧ scope.isGenerator = false ∧ (∀ x ∈ scope.names, x.2 ≠ .cell) ∧ scope.names.lookup ("super" : Str) = some .globalImplicit ∧ scope.names.lookup ("__class__" : Str) = some .free ∧ scope.names.lookup ("self" : Str) = some .local ∧
    (p2.endLine == p4.line) = true ∧
    (match fld with
      | none => params = { posonlyargs := [], args := [⟨"self", none, pa⟩], vararg := none, kwonlyargs := [], kw_defaults := [], kwarg := none, defaults := [] } ∧ body = [supSt msg k p0 p1 p2 p3 p4 p5] ∧ ∀ u : Value, bindArgs (PySem.W.fnX "__init__" q params body scope [("__class__", cc)] .none kV doc pm an (.ref cda) ct) ⟨[u], []⟩ = pure [(("self" : Str), u)]
      | Option.some f => params = { posonlyargs := [], args := [⟨"self", none, pa⟩, ⟨f, none, pb⟩], vararg := none, kwonlyargs := [], kw_defaults := [], kwarg := none, defaults := [] } ∧ body = [supSt msg k p0 p1 p2 p3 p4 p5, fldSt f p6 p7 p8 p9] ∧
          scope.names.lookup f = some .local ∧ (f == ("__debug__" : Str)) = false ∧ ("self" : Str) ≠ f ∧ PySem.W.findIn K (.ref C) f = some none ∧
          ∀ (u v : Value), bindArgs (PySem.W.fnX "__init__" q params body scope [("__class__", cc)] .none kV doc pm an (.ref cda) ct) ⟨[u, v], []⟩ = pure [(("self" : Str), u), (f, v)])
  sup : PySem.W.ks_superIn K C C "__init__" = some (some (.builtin "ValueError.__init__"))
  ve : PySem.W.subIn K (.ref C) (.type "ValueError") = some true
  self : PySem.W.mroIn K C (.ref C) = some true
  nofld : ∀ f, fld = some f → PySem.W.findIn K (.ref C) f = some none
  opq : PySem.W.nsIn K cStatics "thirdparty.any" = some none

section
open PySem.W PySem.Calls
variable {P : Program} {w : World} {K : Frag} {mg mb : Str → Option Value} {A : Around} {E : Value → Shared → Prop} {h : Heap} {g : Array GenState} {d : Drawn} {t : Nat} {os : OsState} {C e t0 L fI cc cda : Addr} {m : Str → Option Value} {msg q : Str} {scope : Scope} {body : List Stmt}
/-- its mro, and that it is there -/
theorem Oc.cd (ox : OexC K C) : ∃ nm q N bs bm sn sub ab col dd k0 k1 k2 k3 k5, K.lookup C = some (excClassObj nm q C N bs bm true sn sub ab col dd k0 k1 k2 k3 k5 "ValueError.__new__") ∧ PySem.HandSPX.refsVE bm = true ∧
    clsIn K C = some { name := nm, bases := bs, mro := .ref C :: bm, ns := N, qualname := q, hasDict := true, slotNames := sn, subclasses := sub, abstract := ab, collection := col, hasDel := false } := by
  obtain ⟨nm, q, N, bs, bm, sn, sub, ab, col, dd, k0, k1, k2, k3, k5, hC, hbm⟩ := ox.cls
  exact ⟨nm, q, N, bs, bm, sn, sub, ab, col, dd, k0, k1, k2, k3, k5, hC, hbm, by unfold clsIn; rw [hC] <;> rfl⟩

/-- the wrapper called -/
theorem mw_call {u : Addr} {rest : List Value} {Q : Value → Shared → Prop} (ox : OexC K C) (X : K.In h) (he : h.get? e = some (PySem.HandSPX.excO C t0)) (hu : h.get? u = some (kxs_mw "ValueError.__init__" e)) (hz : rest.length ≤ sizeLine)
    (hq : ∀ h' t1, (∀ b o, b ≠ e → h.get? b = some o → h'.get? b = some o) → h'.get? e = some (PySem.HandSPX.excO C t1) → Q .none ⟨h', g, d, t, os⟩) :
    wpAny (model P w) A (call (.ref u) rest) Q E ⟨h, g, d, t, os⟩ := by
  obtain ⟨nm, q, N, bs, bm, sn, sub, ab, col, dd, k0, k1, k2, k3, k5, hC, hbm, hcd⟩ := Oc.cd ox
  refine wpAny_call (codeAny_of_tree ?_)
  show wpAny _ A.in1 (callAny (.ref u) ⟨rest, []⟩) _ _ _
  simp only [callAny]
  refine wpAny_bind (wpAny_load hu ?_)
  simp only [kxs_mw, show (Value.type "method-wrapper" == Value.type "method" || Value.type "method-wrapper" == Value.type "builtin_function_or_method" || Value.type "method-wrapper" == Value.type "method-wrapper") = true by decide, if_true]
  refine KFB.if_so (by decide) ?_
  refine wpAny_bind (check_bound_init F.excBase_ValueError.toExcCallFacts (X _ _ hC) he rfl ?_)
  refine wpAny_bind (wpAny_pure (wpAny_pure ?_))
  refine ⟨plainId_quiet F.excBase_ValueError.init.plain _, codeAny_builtin F.excBase_ValueError.initEntry ?_⟩
  exact exc_init_tree (cls := .ref C) (t0 := t0) (dv := none) (c2 := .none) (c3 := .none) (b4 := .bool false) he hz fun h' k e' _ => hq h' _ k e'

theorem sup_eq {k : Nat} {p0 p1 p2 p3 p4 : Pos} {env : Env} (hl : (p2.endLine == p4.line) = true) : eval (.Call (.Attribute (.Call (.Name "super" p0) [] [] p1) "__init__" p2) [.Constant (.str msg) k p3] [] p4) env = (do
      let ov ← attributeBase (.Call (.Name "super" p0) [] [] p1) "__init__" env (eval (.Call (.Name "super" p0) [] [] p1) env)
      standAt p2.atName
      let (f, first) ← holding [ov] (getMethod ov "__init__" (do return (← importBound (.Call (.Name "super" p0) [] [] p1) env).getD true))
      callWith p4 f first (backTo p4 (starEach [.Constant (.str msg) k p3] env)) []) := by
  rw [arm_eval_Call]
  refine congrArg _ (funext fun ov => congrArg _ (funext fun _ => ?_))
  unfold methodCall calleeOf methodCallPos
  have hf : methodCallForm ([Expr.Constant (.str msg) k p3].length + ([] : List Keyword).length) (backTo p4 (starEach [.Constant (.str msg) k p3] env)) (backToKw p4 (keywordEach [] env)) = true := rfl
  simp only [hf, hl, if_true, Bool.not_true, Bool.false_or, pure_bind]
  rfl
/-- super().__init__(msg), evaluated in the frame at L -/
theorem sup_eval {k : Nat} {p0 p1 p2 p3 p4 : Pos} {Q : Value → Shared → Prop} {oc : Value} {od cdd cld : Option Addr} {osl ccs csl : Array (Option Value)} {params : Arguments} {kV doc pm ct ccl cl : Value} {an : Option Addr} {vs : Array Value} {file : Str} {tf : Tok} {pa : Pos} {ar : List Arg}
    (hl : (p2.endLine == p4.line) = true) (ox : OexC K C) (X : K.In h) (hsup : ks_superIn K C C "__init__" = some (some (.builtin "ValueError.__init__"))) (hve : subIn K (.ref C) (.type "ValueError") = some true) (hself : mroIn K C (.ref C) = some true) (hopq : nsIn K cStatics "thirdparty.any" = some none)
    (hf : K.lookup fI = some ⟨oc, od, .func (fnX "__init__" q params body scope [("__class__", cc)] .none kV doc pm an (.ref cda) ct), osl⟩)
    (hcode : K.lookup cda = some ⟨ccl, cdd, .fields vs, ccs⟩) (hvs : vs[2]? = some (.str file tf)) (hfile : ((P.main.file : Str) == file) = true) (htop : (P.main.scope.names.lookup ("super" : Str)).isSome = false)
    (hcell : K.lookup cc = some ⟨cl, cld, .cell (some (.ref C)), csl⟩) (hk : scope.kind = .function) (hks : scope.names.lookup ("super" : Str) = some .globalImplicit) (hkc : scope.names.lookup ("__class__" : Str) = some .free) (hka : scope.names.lookup ("self" : Str) = some .local)
    (hp : params.posonlyargs ++ params.args = ⟨"self", none, pa⟩ :: ar)
    (hmg : h.Ns mainGlobals mg) (hms : mg "super" = none) (hmb : h.Ns builtinsNs mb) (hbo : mb "super" = bootBuiltins "super")
    (hns : h.Ns L m) (hmself : m "self" = some (.ref e)) (he : h.get? e = some (PySem.HandSPX.excO C t0))
    (hq : ∀ h' t1 tk, (∀ b o, b ≠ e → h.get? b = some o → h'.get? b = some o) → h'.get? e = some (PySem.HandSPX.excO C t1) → Q .none ⟨h', g, d, tk, os⟩) :
    _root_.PySem.wpAt (model P w) A (.func body (ksEnv q scope L fI (.ref cda) cc)) (eval (.Call (.Attribute (.Call (.Name "super" p0) [] [] p1) "__init__" p2) [.Constant (.str msg) k p3] [] p4) (ksEnv q scope L fI (.ref cda) cc)) Q E ⟨h, g, d, t, os⟩ := by
  obtain ⟨nm, q', N, bs, bm, sn, sub, ab, col, dd, k0, k1, k2, k3, k5, hC, hbm, hcd⟩ := Oc.cd ox
  have hCh := X _ _ hC
  have hneC : e ≠ C := by
    intro z; subst z
    rw [he] at hCh
    cases hCh
  refine ks_wpAt_MethodCall (pl := (do return (← importBound (.Call (.Name "super" p0) [] [] p1) (ksEnv q scope L fI (.ref cda) cc)).getD true)) ?_ (sup_eq hl)
  refine ks_wpAt_super_base (env := ksEnv q scope L fI (.ref cda) cc) hks hkc (by decide) rfl (X _ _ hf) rfl (ar := ⟨"self", none, pa⟩) (by show (params.posonlyargs ++ params.args).head? = _; rw [hp]; rfl) rfl (X _ _ hcode) rfl hvs hfile htop ?_
  refine ks_loadName_global hk hks (loadGlobal_builtin (env := ksEnv q scope L fI (.ref cda) cc) hmg hms hmb (hbo.trans (by decide +kernel : bootBuiltins "super" = some (.type "super"))) ⟨rfl, ?_⟩)
  refine wpAny_loadName_free hk hkc rfl ⟨_, X _ _ hcell, rfl⟩ ?_
  refine wpAny_loadName_local hk hka hns hmself ?_
  refine ks_wpAny_isType_cls hCh rfl ⟨rfl, ?_⟩
  refine ks_wpAny_call_super hCh rfl he rfl (fun c z => by cases z) (looks_mroIn X hself) (fun h1 e1 k1 => ?_)
  have X1 := X.keeps k1
  have he1 := k1 _ _ he
  have I1 : InstAt h1 e (PySem.HandSPX.excO C t0) C none := ⟨he1, rfl, rfl, trivial⟩
  refine kxs_getMethod kxs_ValueError e1 (looks_opaque X1 hopq) (l₀ := .ref C :: bm) ?_ rfl X1 ?_ (I1.type.andThen (looks_subIn X1 hve)) hneC (by decide) ?_
  · have := (looks_clsIn (M := model P w) X1 hcd)
    exact fun A Q E s k q => wpAny_bind (this A _ E s k (wpAny_pure q))
  · have := hsup
    unfold ks_superIn at this
    rw [hcd] at this
    exact this
  · have kp : ∀ b o, h1.get? b = some o → (h1.push (kxs_mw "ValueError.__init__" e)).get? b = some o := fun b o z => Heap.get?_push_of_some _ z
    have hu : (h1.push (kxs_mw "ValueError.__init__" e)).get? h1.objs.size = some (kxs_mw "ValueError.__init__" e) := Heap.get?_push_at rfl rfl
    show wpAny _ _ (callWith p4 (.ref h1.objs.size) [] (backTo p4 (starEach [.Constant (.str msg) k p3] (ksEnv q scope L fI (.ref cda) cc))) []) _ _ _
    refine kxs_callWith (i := "ValueError.__init__") (x := e) rfl (evalArgs_plain ?_)
    refine Calls.spliced_cons ?_
    refine wpAny_Constant_str (k := k) (pos := p3) ?_
    refine Calls.spliced_nil ⟨hu, ?_⟩
    refine mw_call ox (X1.keeps kp) (kp _ _ he1) hu (by show 1 ≤ sizeLine; rw [sizeLine_eq]; decide) fun h' t1 k2 e2 => ?_
    exact hq h' t1 _ (fun b o z y => k2 b o z (kp _ _ (k1 _ _ y))) e2

/-- __init__ called, no field -/
theorem ini0 (xc : Xc P K C none) (X : K.In h) (hmg : h.Ns mainGlobals mg) (hms : mg "super" = none) (hmb : h.Ns builtinsNs mb) (hbo : mb "super" = bootBuiltins "super") (hlim : h.NoLimit) (hroom : A.depth < recursionLimit)
    (he : h.get? e = some (PySem.HandSPX.excO C t0)) {R : Result → Shared → Prop} {fI : Addr} (hfI : findIn K (.ref C) "__init__" = some (some (.ref fI)))
    (hq : ∀ h' t1 tk, (∀ b o, b ≠ e → h.get? b = some o → h'.get? b = some o) → h'.get? e = some (PySem.HandSPX.excO C t1) → R (.ok (.ret .none)) ⟨h', g, d, tk, os⟩) :
    codeAny (model P w) A (.call (.ref fI) ⟨[.ref e], []⟩) R ⟨h, g, d, t, os⟩ := by
  obtain ⟨fI', cc, cda, oc, od, osl, q, msg, params, body, scope, kV, doc, pm, ct, ccl, cl, an, cdd, cld, vs, ccs, csl, file, tf, k, p0, p1, p2, p3, p4, p5, p6, p7, p8, p9, pa, pb, f1, f2, f3, f4, f5, f6, f7, f8, f9, s1, s2, s3, s4, s5, s6, s7, hl, rfl, rfl, hb⟩ := xc.ini
  rw [hfI] at f1
  cases f1
  refine ks_codeAny_call_defAt hroom (X _ _ f3) rfl hlim (codeRec_of X f4) rfl (.of_eq (hb (.ref e))) s4 (fun y hy => ?_) (fun h0 hns hk => ?_) s2 s3 s1
  · rw [List.mem_singleton.mp hy]; exact s7
  refine ks_wpAt_execs_cons (ks_wpAt_Expr_any ?_ (by show (scope.kind == .module && _) = false; rw [s1]; rfl))
  refine sup_eval (m := fun x => [(("self" : Str), Value.ref e)].reverse.lookup x) hl xc.ox (X.keeps hk) xc.sup xc.ve xc.self xc.opq f3 f5 f6 f7 f8 f9 s1 s5 s6 s7 rfl (hmg.keeps hk) hms (hmb.keeps hk) hbo hns rfl (hk _ _ he) fun h' t1 tk k2 e2 => ?_
  exact wpAt_of_wpAny (wpAny_execs_nil (hq h' t1 tk (fun b o z y => k2 b o z (hk _ _ y)) e2))
/-- .. with a field -/
theorem ini1 {f : Str} {v : Value} (xc : Xc P K C (some f)) (X : K.In h) (hmg : h.Ns mainGlobals mg) (hms : mg "super" = none) (hmb : h.Ns builtinsNs mb) (hbo : mb "super" = bootBuiltins "super") (hlim : h.NoLimit) (hroom : A.depth < recursionLimit) (hKe : K.lookup e = none)
    (he : h.get? e = some (PySem.HandSPX.excO C t0)) {R : Result → Shared → Prop} {fI : Addr} (hfI : findIn K (.ref C) "__init__" = some (some (.ref fI)))
    (hq : ∀ h' t1 tk dx, (∀ b o, b ≠ e → h.get? b = some o → h'.get? b = some o) → h.objs.size ≤ dx → dx ≠ e → h'.get? e = some { cls := .ref C, dict := some dx, data := .fields #[.ref t1, .none, .none, .none, .bool false, .none] } →
      h'.Ns1 dx (fun y => if y = f then some v else none) → R (.ok (.ret .none)) ⟨h', g, d, tk, os⟩) :
    codeAny (model P w) A (.call (.ref fI) ⟨[.ref e, v], []⟩) R ⟨h, g, d, t, os⟩ := by
  obtain ⟨fI', cc, cda, oc, od, osl, q, msg, params, body, scope, kV, doc, pm, ct, ccl, cl, an, cdd, cld, vs, ccs, csl, file, tf, k, p0, p1, p2, p3, p4, p5, p6, p7, p8, p9, pa, pb, f1, f2, f3, f4, f5, f6, f7, f8, f9, s1, s2, s3, s4, s5, s6, s7, hl, rfl, rfl, z1, z2, z3, z4, hb⟩ := xc.ini
  rw [hfI] at f1
  cases f1
  obtain ⟨nm, q', N, bs, bm, sn, sub, ab, col, dd, k0, k1, k2, k3, k5, hC, hbm, hcd⟩ := Oc.cd xc.ox
  refine ks_codeAny_call_defAt hroom (X _ _ f3) rfl hlim (codeRec_of X f4) rfl (.of_eq (hb (.ref e) v)) s4 (fun y hy => ?_) (fun h0 hns hk => ?_) s2 s3 s1
  · rcases List.mem_cons.mp hy with r | r
    · rw [r]; exact s7
    · rw [List.mem_singleton.mp r]; exact z1
  have lks : [(("self" : Str), Value.ref e), (f, v)].reverse.lookup ("self" : Str) = some (.ref e) := by
    have : (("self" : Str) == f) = false := by simpa using z3
    simp [List.lookup, this]
  have lkf : [(("self" : Str), Value.ref e), (f, v)].reverse.lookup f = some v := by simp [List.lookup]
  have hLe : h.objs.size ≠ e := Nat.ne_of_gt (Heap.lt_size he)
  refine ks_wpAt_execs_cons (ks_wpAt_Expr_any ?_ (by show (scope.kind == .module && _) = false; rw [s1]; rfl))
  refine sup_eval (m := fun x => [(("self" : Str), Value.ref e), (f, v)].reverse.lookup x) hl xc.ox (X.keeps hk) xc.sup xc.ve xc.self xc.opq f3 f5 f6 f7 f8 f9 s1 s5 s6 s7 rfl (hmg.keeps hk) hms (hmb.keeps hk) hbo hns lks (hk _ _ he) fun h' t1 tk k2 e2 => ?_
  have hns2 := hns.at fun o y => k2 _ o hLe y
  have X2 : K.In h' := fun b o y => k2 b o (fun z => by subst z; rw [hKe] at y; cases y) (hk _ _ (X _ _ y))
  refine ks_wpAt_execs_cons (ks_wpAt_Assign_Attr ?_)
  refine wpAt_of_wpAny (wpAny_Name (wpAny_loadName_local s1 z1 hns2 lkf ?_) z2)
  refine wpAny_Name (wpAny_loadName_local s1 s7 hns2 lks ?_) (by decide)
  refine set_plain X2 (ox := PySem.HandSPX.excO C t1) (od := none) ⟨e2, rfl, rfl, trivial⟩ xc.ox.sa ?_
  refine PySem.HandSPX.exc_osa X2 e2 hcd (show PySem.HandSPX.refsVE (.ref C :: bm) = true from hbm) rfl z4 (fun h3 tk3 dx k3 dn dne hx hn => ?_)
  have gr : ∀ b o, b ≠ e → h.get? b = some o → h3.get? b = some o := fun b o z y => k3 b o z (k2 b o z (hk _ _ y))
  refine wpAt_of_wpAny (wpAny_execs_nil (hq h3 t1 tk3 dx gr ?_ dne hx hn))
  obtain ⟨oL, _, _, hoL, _⟩ := hns2
  exact Nat.le_trans (Nat.le_of_lt (Heap.lt_size hoL)) dn

/-! ### as what a raise makes -/
end
theorem Xc.init {P : Program} {K : PySem.W.Frag} {C : Addr} {fld : Option Str} (xc : Xc P K C fld) : ∃ fI, PySem.W.findIn K (.ref C) "__init__" = some (some (.ref fI)) ∧ PySem.W.typeIn K (.ref fI) = some (.type "function") := by
  obtain ⟨fI, _, _, _, _, _, _, _, _, _, _, _, _, _, _, _, _, _, _, _, _, _, _, _, _, _, _, _, _, _, _, _, _, _, _, _, _, _, iC, tI, _⟩ := xc.ini
  exact ⟨fI, iC, tI⟩
section
variable {X : Cx} {C : Addr} {f x : Str} {e : Expr} {p pos : Pos} {ta : TA} {k : Nat}
theorem fresh_K {pins : List (Addr × Obj)} {σ : L2.St} {H : Hp} {s : Shared} (I : Inv X pins σ H s) {a : Addr} (h : s.heap.objs.size ≤ a) : X.K.lookup a = none := by
  cases z : X.K.lookup a with
  | none => rfl
  | some o => exact absurd (Heap.lt_size (I.kIn _ _ z)) (Nat.not_lt.mpr h)
/-- C(): nothing is kept -/
theorem pmk_x0 (xc : Xc X.prog X.K C none) (hr : Room (k + 1) X.A) (hs : X.mg "super" = none) (hg : Gl X x) (hm : X.mg x = some (.ref C)) (hdb : (x == ("__debug__" : Str)) = false) :
    PMk X (.Call (.Name x p) [] [] pos) (fun _ H Q => Q (.ref C) none H) := by
  intro pins s σ H Q I h
  obtain ⟨nm, q, N, bs, bm, sn, sub, ab, col, dd, k0, k1, k2, k3, k5, hC, hbm, hcd⟩ := Oc.cd xc.ox
  obtain ⟨fI, iC, tI⟩ := xc.init
  refine wpAny_Call_Name_kw (ld_glob I hg hm ?_ hdb)
  refine PySem.W.callWith_K0 I.kIn xc.ox.kC ?_
  obtain ⟨hp, g, dr, tk, os⟩ := s
  have kk : ∀ b o, hp.get? b = some o → ((hp.push (PySem.W.kdv_tup [])).push (PySem.HandSPX.excO C hp.objs.size)).get? b = some o := fun b o e => Heap.get?_push_of_some _ (Heap.get?_push_of_some _ e)
  have hget : ((hp.push (PySem.W.kdv_tup [])).push (PySem.HandSPX.excO C hp.objs.size)).get? (hp.objs.size + 1) = some (PySem.HandSPX.excO C hp.objs.size) := by heap_get
  obtain ⟨mb, hmb, hbo⟩ := I.ok.mod.blt
  have st : ∀ b o, X.base.get? b = some o → hp.get? b = some o := fun b o z => (I.env0.bs b o z).1
  have nha : ∀ {b : Addr} {o : Obj}, hp.get? b = some o → b ≠ hp.objs.size + 1 := fun {b o} z => Nat.ne_of_lt (Nat.lt_succ_of_lt (Heap.lt_size z))
  refine wpAny_call (PySem.HandSPX.call_own F.excBase_ValueError (fun Y => PySem.HandSPX.refsVE_contains Y bm hbm) (I.kIn _ _ hC) (PySem.W.looks_findIn I.kIn iC) (fun self => PySem.W.bind_fn I.kIn self tI) (Nat.zero_le _) ?_)
  refine ini0 xc (I.kIn.keeps kk) ((I.ok.mod.glob.keeps st).keeps kk) hs ((hmb.keeps st).keeps kk) (hbo _ (by decide)) ((I.ok.mod.nolimit.keeps st).keeps kk) (hr.make C [] []).depth hget iC fun h' t1 tk' k' e' => ?_
  have kh : ∀ b o, hp.get? b = some o → h'.get? b = some o := fun b o z => k' b o (nha z) (kk b o z)
  exact ⟨rfl, hp.objs.size + 1, _, _, ⟨hp, g, dr, tk, os⟩, H, .ref C, none, rfl, I, kh, (by
    cases z : hp.get? (hp.objs.size + 1) with
    | none => rfl
    | some o => exact absurd rfl (nha z)), e', ⟨rfl, rfl⟩, rfl, rfl, I.hok.fresh (Nat.le_succ _), rfl, I.bare, raises_own xc.ox.exC xc.ox.tyC, h⟩
/-- C(e), kept as f -/
theorem pmk_x1 (xc : Xc X.prog X.K C (some f)) (hr : Room (k + 1) X.A) (hs : X.mg "super" = none) (hg : Gl X x) (hm : X.mg x = some (.ref C)) (hdb : (x == ("__debug__" : Str)) = false) (ha : PA X [e] ta) (he : starEach [e] X.env = [(false, eval e X.env)]) :
    PMk X (.Call (.Name x p) [e] [] pos) (fun σ H Q => ta σ H fun vs H1 => ∃ v, vs = [v] ∧ ∀ d, H1 d = none → Q (.ref C) (some d) (upd H1 d (.xd [(f, v)]))) := by
  intro pins s σ H Q I h
  obtain ⟨nm, q, N, bs, bm, sn, sub, ab, col, dd, k0, k1, k2, k3, k5, hC, hbm, hcd⟩ := Oc.cd xc.ox
  obtain ⟨fI, iC, tI⟩ := xc.init
  refine wpAny_Call_Name_kw (ld_glob I hg hm ?_ hdb)
  refine PySem.W.callWith_K (h₀ := X.base) I.ok.mod.kin xc.ox.kC (thn (ha.run pos pins s σ H _ I h) fun us s1 ⟨vs, H1, I1, r1, v, ev, q1⟩ => ⟨I1.kIn, ?_⟩) he rfl
  subst ev
  cases r1 with
  | @cons _ u _ ur ra rn =>
  cases rn
  show wpAny _ _ (call (.ref C) [u]) _ _ _
  obtain ⟨hp, g, dr, tk, os⟩ := s1
  have kk : ∀ b o, hp.get? b = some o → ((hp.push (PySem.W.kdv_tup [u])).push (PySem.HandSPX.excO C hp.objs.size)).get? b = some o := fun b o e => Heap.get?_push_of_some _ (Heap.get?_push_of_some _ e)
  have hget : ((hp.push (PySem.W.kdv_tup [u])).push (PySem.HandSPX.excO C hp.objs.size)).get? (hp.objs.size + 1) = some (PySem.HandSPX.excO C hp.objs.size) := by heap_get
  obtain ⟨mb, hmb, hbo⟩ := I1.ok.mod.blt
  have st : ∀ b o, X.base.get? b = some o → hp.get? b = some o := fun b o z => (I1.env0.bs b o z).1
  have nha : ∀ {b : Addr} {o : Obj}, hp.get? b = some o → b ≠ hp.objs.size + 1 := fun {b o} z => Nat.ne_of_lt (Nat.lt_succ_of_lt (Heap.lt_size z))
  refine wpAny_call (PySem.HandSPX.call_own F.excBase_ValueError (fun Y => PySem.HandSPX.refsVE_contains Y bm hbm) (I1.kIn _ _ hC) (PySem.W.looks_findIn I1.kIn iC) (fun self => PySem.W.bind_fn I1.kIn self tI) (by rw [sizeLine_eq]; show 1 ≤ _; omega) ?_)
  refine ini1 xc (I1.kIn.keeps kk) ((I1.ok.mod.glob.keeps st).keeps kk) hs ((hmb.keeps st).keeps kk) (hbo _ (by decide)) ((I1.ok.mod.nolimit.keeps st).keeps kk) (hr.make C [u] []).depth (fresh_K I1 (Nat.le_succ _)) hget iC fun h' t1 tk' dx k' dn dne hx hn => ?_
  have kh : ∀ b o, hp.get? b = some o → h'.get? b = some o := fun b o z => k' b o (nha z) (kk b o z)
  obtain ⟨G, g1', g2'⟩ := restrict h' fun b => decide (b ≠ hp.objs.size + 1)
  have gk : ∀ b, b ≠ hp.objs.size + 1 → G.get? b = h'.get? b := fun b hb => g1' b (decide_eq_true hb)
  have ge : G.get? (hp.objs.size + 1) = none := g2' _ (by simp)
  have kG : ∀ b o, hp.get? b = some o → G.get? b = some o := fun b o z => by rw [gk b (nha z)]; exact kh b o z
  have dn' : hp.objs.size ≤ dx := by
    refine Nat.le_trans ?_ dn
    rw [Heap.size_push, Heap.size_push]; omega
  have J := I1.laid (t' := tk') (a := dx) (o := .xd [(f, v)]) kG dn' ⟨_, hn.at fun o y => (gk dx dne).trans y, relO_put (fs := []) ra fun g => True.intro⟩
  refine ⟨rfl, hp.objs.size + 1, _, _, ⟨G, g, dr, tk', os⟩, _, .ref C, some dx, rfl, J, fun b o z => ?_, ge, hx, ⟨rfl, rfl⟩, rfl, rfl, ?_, rfl, I1.bare, raises_own xc.ox.exC xc.ox.tyC, q1 dx (I1.hok.fresh dn')⟩
  · by_cases hb : b = hp.objs.size + 1
    · rw [hb, ge] at z; cases z
    · exact (gk b hb).symm.trans z
  · rw [upd_ne (Ne.symm dne)]
    exact I1.hok.fresh (Nat.le_succ _)
end
end Lay

set_option Elab.async false
set_option maxRecDepth 100000
set_option linter.all false
/-! Lay, part Xb: raise, try. -/
namespace Lay
open PySem L2 PyProof.Rows

structure Tgt (K : PySem.W.Frag) (C : Addr) : Prop where
  b : PySem.W.subIn K (.ref C) (.type "BaseException") = some true
  d : PySem.W.hasDictIn K C = true
  t : PySem.W.typeIn K (.ref C) = some (.type "type")
def tgX (y : Str) : Bool := decide (y = "TripError") || xNm y
/-- what the written part says of the errors that it has -/
structure Exs (P : Program) (K : PySem.W.Frag) (mg : Str → Option Value) : Prop where
  sup : mg "super" = none
  made : ∀ x f, xFields.lookup x = some f → mg x = none ∨ ∃ C, mg x = some (.ref C) ∧ Xc P K C f ∧ ExcC K C
  tg : ∀ y, tgX y = true → mg y = none ∨ ∃ C, mg y = some (.ref C) ∧ Tgt K C
  sub : ∀ x y C T, xNm x = true → tgX y = true → mg x = some (.ref C) → mg y = some (.ref T) → PySem.W.subIn K (.ref C) (.ref T) = some (subX x y)

section
variable {X : Cx} {W : WX} {k : Nat} {x : Str} {p pos pos2 : Pos} {e : Expr} {ml : WL}
theorem ss_raise0 (hc : X.calm = true) (ex : Exs X.prog X.K X.mg) (hr : Room (k + 1) X.A) (tk : Takes X W) (hx : xFields.lookup x = some none) (hp : X.mg x ≠ none) (hg : Gl X x) (hdb : (x == ("__debug__" : Str)) = false) :
    PS X (.Raise (some (.Call (.Name x p) [] [] pos)) none pos2) (TMS X W fun P σ M => P.xe ⟨x, []⟩ σ M) := by
  rcases ex.made x _ hx with z | ⟨C, hm, xc, _⟩
  · exact absurd z hp
  refine (ps_raise hc tk (pmk_x0 xc hr ex.sup hg hm hdb)).sub fun Z σc H q => ?_
  obtain ⟨ρ, M, σ, P, r, s, q, k⟩ := q
  exact k.xe ρ M H σ σc _ _ _ (Ext.refl _ _) r s ⟨C, hm, rfl, rfl⟩ q
theorem ss_raise1 {f : Str} (hc : X.calm = true) (ex : Exs X.prog X.K X.mg) (hr : Room (k + 1) X.A) (tk : Takes X W) (hx : xFields.lookup x = some (some f)) (hp : X.mg x ≠ none) (hg : Gl X x) (hdb : (x == ("__debug__" : Str)) = false) (ha : PA X [e] (TML X W ml)) (he : starEach [e] X.env = [(false, eval e X.env)]) :
    PS X (.Raise (some (.Call (.Name x p) [e] [] pos)) none pos2) (TMS X W fun P σ M => ml σ M (fun x m => P.xe x σ m) fun ds M1 => ∃ d, ds = [d] ∧ P.xe ⟨x, [(f, d)]⟩ σ M1) := by
  rcases ex.made x _ hx with z | ⟨C, hm, xc, _⟩
  · exact absurd z hp
  refine (ps_raise hc tk (pmk_x1 xc hr ex.sup hg hm hdb ha he)).sub fun Z σc H q => ?_
  obtain ⟨ρ, M, σ, P, r, s, q, k⟩ := q
  refine ⟨ρ, M, σ, _, _, r, s, q, fun ρ1 M1 H1 ds vs e1 r1 hd q1 => ?_, k.kx r s⟩
  obtain ⟨d, rfl, q1⟩ := q1
  cases hd with
  | cons d1 d2 =>
    cases d2
    rename_i v1
    refine ⟨v1, rfl, fun dd hn => ?_⟩
    have xa : Ext ρ1 H1 ρ1 (upd H1 dd (.xd [(f, v1)])) := Ext.alloc hn
    exact k.xe ρ1 M1 _ σ σc _ _ _ (e1.trans xa) (r1.alloc hn) (s.mono r (e1.trans xa)) ⟨C, hm, rfl, _, upd_same, .cons ⟨rfl, r1.mono xa d1⟩ .nil⟩ q1
end

/-! ### a suite's answer -/
theorem xd_nc {fs : List (Str × V)} : ¬ IsCell (.xd fs) := fun z => z
theorem RX.mono {mg : Str → Option Value} {K : PySem.W.Frag} {ρ ρ' : Rg} {M : Mem} {H H' : Hp} {x : Xn} {cls : Value} {dd : Option Addr} (r : Rel K ρ M H) (e : Ext ρ H ρ' H') (h : RX mg K ρ H x cls dd) : RX mg K ρ' H' x cls dd := by
  obtain ⟨C, h1, h2, h3⟩ := h
  refine ⟨C, h1, h2, ?_⟩
  cases dd with
  | none => exact h3
  | some d =>
    obtain ⟨fx, e1, hp⟩ := h3
    refine ⟨fx, e.keep _ _ e1 fun ha => ?_, ?_⟩
    · obtain ⟨o, e2, q⟩ := r.at d (.inl ha)
      rw [e1] at e2; cases e2; exact q
    · clear h1 h2 e1
      generalize x.fs = xf at hp ⊢
      induction hp with
      | nil => exact .nil
      | cons a _ ih => exact .cons ⟨a.1, r.mono e a.2⟩ ih
theorem paired_look {R : D → V → Prop} : ∀ {xf : List (Str × D)} {fx : List (Str × V)} {f : Str} {d : D}, Paired (fun (p : Str × D) (q : Str × V) => p.1 = q.1 ∧ R p.2 q.2) xf fx → xf.lookup f = some d → ∃ v, fx.lookup f = some v ∧ R d v
  | _, _, _, _, .nil, h => by cases h
  | (a, b) :: xf, (c, v) :: fx, f, d, .cons h1 h2, h => by
    have h11 : a = c := h1.1
    have h12 : R b v := h1.2
    subst h11
    rw [List.lookup_cons] at h ⊢
    split at h
    · rename_i e
      cases h
      exact ⟨v, rfl, h12⟩
    · rename_i e
      obtain ⟨u, e1, q⟩ := paired_look h2 h
      exact ⟨u, e1, q⟩
abbrev WQ := Xn → Mem → (D → Prop) → Prop
abbrev WQs := Xn → Mem → (List D → Prop) → Prop
def KtX (K : PySem.W.Frag) (ρ : Rg) (M : Mem) (H : Hp) (Q : D → Prop) (Qc : VK) : Prop :=
  ∀ (ρ' : Rg) (H' : Hp) (d : D) (v : V), Ext ρ H ρ' H' → Rel K ρ' M H' → RR K ρ' M H' d v → Frs H d v → Q d → Qc v H'
def KsX (K : PySem.W.Frag) (ρ : Rg) (M : Mem) (H : Hp) (Q : List D → Prop) (Qc : List V → Hp → Prop) : Prop :=
  ∀ (ρ' : Rg) (H' : Hp) (d : List D) (v : List V), Ext ρ H ρ' H' → Rel K ρ' M H' → RDs ρ' K H' d v → Q d → Qc v H'
def TMX (X : Cx) (a : Addr) (cls : Value) (dd : Option Addr) (y : Str) (n : Option Nat) (m : WQ) : TE := fun σc H Qc => ∃ ρ M x Q, Rel X.K ρ M H ∧ RX X.mg X.K ρ H x cls dd ∧ xNm x.cls = true ∧ subX x.cls y = true ∧ (∀ i, n = some i → σc[i]? = some (some (.ref a))) ∧ m x M Q ∧ KtX X.K ρ M H Q Qc
def TMXs (X : Cx) (a : Addr) (cls : Value) (dd : Option Addr) (y : Str) (n : Option Nat) (m : WQs) : TA := fun σc H Qc => ∃ ρ M x Q, Rel X.K ρ M H ∧ RX X.mg X.K ρ H x cls dd ∧ xNm x.cls = true ∧ subX x.cls y = true ∧ (∀ i, n = some i → σc[i]? = some (some (.ref a))) ∧ m x M Q ∧ KsX X.K ρ M H Q Qc
section
variable {X : Cx} {a : Addr} {oe : Obj} {cls : Value} {dd : Option Addr} {pn : List (Addr × Obj)} {y : Str} {n : Option Nat} {e c b : Expr} {es : List Expr} {m mc ma mb : WQ} {ml : WQs} {pos : Pos}
theorem KtX.later {K : PySem.W.Frag} {ρ ρ' : Rg} {M : Mem} {H H' : Hp} {Q : D → Prop} {Qc : VK} (k : KtX K ρ M H Q Qc) (x : Ext ρ H ρ' H') : KtX K ρ' M H' Q Qc := fun ρ2 H2 d v y r rr f q => k ρ2 H2 d v (x.trans y) r rr (f.back x) q
theorem KsX.later {K : PySem.W.Frag} {ρ ρ' : Rg} {M : Mem} {H H' : Hp} {Q : List D → Prop} {Qc : List V → Hp → Prop} (k : KsX K ρ M H Q Qc) (x : Ext ρ H ρ' H') : KsX K ρ' M H' Q Qc := fun ρ2 H2 d v y r rr q => k ρ2 H2 d v (x.trans y) r rr q
theorem KtX.old {K : PySem.W.Frag} {ρ : Rg} {M : Mem} {H : Hp} {Q : D → Prop} {Qc : VK} {d : D} {v : V} (k : KtX K ρ M H Q Qc) (r : Rel K ρ M H) (h : RD ρ K H d v) (q : Q d) : Qc v H := k ρ H d v (Ext.refl _ _) r (RR.of h) (Frs.no h.nofr) q
theorem su_c {d : D} {v : V} (h : PE (X.suite a ((a, oe) :: pn)) e (tC v)) (hd : ∀ ρ H, RD ρ X.K H d v) : PE (X.suite a ((a, oe) :: pn)) e (TMX X a cls dd y n fun _ _ Q => Q d) := by
  refine h.sub fun σc H Qc h => ?_
  obtain ⟨ρ, M, x, Q, r, _, _, _, _, q, k⟩ := h
  exact k.old r (hd ρ H) q
theorem sub_eq {x y : Str} (h : subX x y = true) (hy : xNm y = true) : x = y := by
  unfold subX at h
  rcases Bool.or_eq_true _ _ ▸ h with h | h
  · exact of_decide_eq_true h
  · have := of_decide_eq_true h
    subst this
    exact absurd hy (by decide +kernel)
theorem Xc.nof {P : Program} {K : PySem.W.Frag} {C : Addr} {f : Str} (xc : Xc P K C (some f)) : PySem.W.findIn K (.ref C) f = some none := xc.nofld f rfl
theorem su_fld {i : Nat} {f nm : Str} {p : Pos} (ex : Exs X.prog X.K X.mg) (hy : xFields.lookup y = some (some f)) (hz : Zc cls dd oe) (hf : ∃ vs, oe.data = .fields vs) (he : PE (X.suite a ((a, oe) :: pn)) (.Name nm p) (tVar i)) :
    PE (X.suite a ((a, oe) :: pn)) (.Attribute (.Name nm p) f pos) (TMX X a cls dd y n fun x _ Q => n = some i ∧ ∃ d, x.fs.lookup f = some d ∧ Q d) := by
  have hyn : xNm y = true := by unfold xNm; rw [hy]; rfl
  rcases ex.made y _ hy with z | ⟨C, hm, xc, ec⟩
  · refine ⟨fun pins s σ H Q I h => ?_⟩
    obtain ⟨ρ, M, x, Q, r, ⟨C, h1, _⟩, _, hs, _⟩ := h
    rw [sub_eq hs hyn, z] at h1
    cases h1
  · refine (pe_xf ⟨ec.hg, ec.hk, ec.hs, ec.hd⟩ xc.nof hz hf he).sub fun σc H Qc h => ?_
    obtain ⟨ρ, M, x, Q, r, ⟨C', h1, h2, h3⟩, _, hs, hσ, ⟨hn, d, hl, q⟩, k⟩ := h
    rw [sub_eq hs hyn, hm] at h1
    cases h1
    refine ⟨_, hσ i hn, rfl, h2, ?_⟩
    cases dd with
    | none =>
      have h3 : x.fs = [] := h3
      rw [h3] at hl
      cases hl
    | some d0 =>
      obtain ⟨fx, e1, hp⟩ := h3
      obtain ⟨v, e2, hd⟩ := paired_look hp hl
      exact ⟨d0, fx, v, rfl, e1, e2, k.old r hd q⟩
theorem isi_exc (hz : Zc cls dd oe) (hf : ∃ vs, oe.data = .fields vs) : CallR (X.suite a ((a, oe) :: pn)) (.builtin "isinstance") (fun xs H Q => ∃ (D T : Addr) (b : Bool), xs = [.ref a, .ref T] ∧ cls = .ref D ∧ ExcC X.K D ∧ PySem.W.kitOne X.K (.ref D) (.ref T) = some b ∧
    (dd = none ∨ ∃ d0 fs, dd = some d0 ∧ H d0 = some (.xd fs)) ∧ Q (.bl b) H) := by
  intro pins s σ H xs us Q I r h
  obtain ⟨D, T, b, rfl, ec, C, e, hdd, q⟩ := h
  cases r with
  | cons rx rr =>
    cases rr with
    | cons rt rr =>
      cases rr
      cases rx
      obtain rfl := (show _ = Value.ref T from rt)
      obtain ⟨hget, _⟩ := I.pin (a, oe) (List.mem_append.mpr (.inl List.mem_cons_self))
      obtain ⟨vs, hv⟩ := hf
      have hcl : (PySem.W.clsIn X.K D).isSome = true := by
        obtain ⟨cd, hc, _⟩ := PySem.W.any_some C.hd
        rw [hc]; rfl
      obtain ⟨od, J⟩ : ∃ od, PySem.W.InstAt s.heap a oe D od := by
        rcases hdd with z | ⟨d0, fs, z, hH⟩
        · refine ⟨none, hget, hz.1.trans ec, by unfold PySem.W.notCls; rw [hv] <;> rfl, ?_⟩
          rw [hz.2, z]; trivial
        · have hx : ObjOk X.prog X.w H s.heap d0 (.xd fs) := I.hok d0 _ hH
          obtain ⟨mA, hns, hr⟩ := hx
          obtain ⟨od, ho, hl⟩ := lookIn_ns hns
          exact ⟨some od, hget, hz.1.trans ec, by unfold PySem.W.notCls; rw [hv] <;> rfl, by rw [hz.2, z]; exact ho⟩
      exact PySem.W.kia_one (PySem.W.kitx_exc hcl C.hg C.hk C.hs C.ha C.hn C.ht C.hm) I.kIn J e (fun z => nomatch z) fun tk => ⟨.bl b, H, I.kept (t' := tk) fun _ _ z => z, rfl, q⟩
theorem su_isx {i : Nat} {nm z : Str} {p p1 p2 : Pos} (ex : Exs X.prog X.K X.mg) (hyn : xNm y = true) (hz : Zc cls dd oe) (hf : ∃ vs, oe.data = .fields vs) (hgi : Gl X "isinstance") (hmi : X.mg "isinstance" = none) (ht : tgX z = true) (hgz : Gl X z) (hpz : X.mg z ≠ none) (hdb : (z == ("__debug__" : Str)) = false)
    (he : PE (X.suite a ((a, oe) :: pn)) (.Name nm p) (tVar i)) :
    PE (X.suite a ((a, oe) :: pn)) (.Call (.Name "isinstance" p1) [.Name nm p, .Name z p2] [] pos) (TMX X a cls dd y n fun x _ Q => n = some i ∧ subX x.cls z = true ∧ Q (.bl true)) := by
  rcases ex.tg z ht with w | ⟨T, hT, tT⟩
  · exact absurd w hpz
  have hp : PE (X.suite a ((a, oe) :: pn)) (.Name z p2) (tC (.ref T)) := pe_glob (X := X.suite a ((a, oe) :: pn)) hgz hT rfl hdb
  refine (pe_callB (isi_exc hz hf) hgi hmi (by decide +kernel) (pa_cons he (pa_cons hp pa_nil rfl) rfl)).sub fun σc H Qc h => ?_
  obtain ⟨ρ, M, x, Q, r, ⟨C, h1, h2, h3⟩, hxn, hs, hσ, ⟨hn, hsz, q⟩, k⟩ := h
  have hxf : ∃ f, xFields.lookup x.cls = some f := Option.isSome_iff_exists.mp hxn
  obtain ⟨f, hxf⟩ := hxf
  rcases ex.made _ _ hxf with w | ⟨C', hC, _, ec⟩
  · rw [w] at h1; cases h1
  rw [hC] at h1
  cases h1
  have hsub := ex.sub x.cls z _ _ hxn ht hC hT
  have hk : PySem.W.kitOne X.K (.ref C) (.ref T) = some true := by
    unfold PySem.W.kitOne
    split
    · rfl
    · show (if ((PySem.W.clsIn X.K T).isSome && PySem.W.typeIn X.K (.ref T) == some (.type "type")) = true then _ else none) = _
      obtain ⟨cd, hc, _⟩ := PySem.W.any_some tT.d
      rw [hc, tT.t]
      rw [if_pos (show ((some cd).isSome && some (Value.type "type") == some (Value.type "type")) = true by simp)]
      rw [hsub, hsz]
  refine ⟨_, hσ i hn, C, T, true, rfl, h2, ec, hk, ?_, k.old r (.bl true) q⟩
  cases dd with
  | none => exact .inl rfl
  | some d0 =>
    obtain ⟨fx, e1, _⟩ := h3
    exact .inr ⟨d0, fx, rfl, e1⟩
theorem su_nil : PA (X.suite a ((a, oe) :: pn)) [] (TMXs X a cls dd y n fun _ _ Q => Q []) := by
  refine pa_nil.sub fun σc H Qc h => ?_
  obtain ⟨ρ, M, x, Q, r, _, _, _, _, q, k⟩ := h
  exact k ρ H [] [] (Ext.refl _ _) r .nil q
theorem su_cons (he : PE (X.suite a ((a, oe) :: pn)) e (TMX X a cls dd y n m)) (hr : PA (X.suite a ((a, oe) :: pn)) es (TMXs X a cls dd y n ml)) (hs : starEach (e :: es) X.env = (false, eval e X.env) :: starEach es X.env) :
    PA (X.suite a ((a, oe) :: pn)) (e :: es) (TMXs X a cls dd y n fun x M Q => m x M fun d => ml x M fun ds => Q (shr d :: ds)) := by
  refine (pa_cons he hr hs).sub fun σc H Qc h => ?_
  obtain ⟨ρ, M, x, Q, r, rx, hx, hs, hσ, q, k⟩ := h
  exact ⟨ρ, M, x, _, r, rx, hx, hs, hσ, q, fun ρ1 H1 d v e1 r1 d1 _ h1 => ⟨ρ1, M, x, _, r1, rx.mono r e1, hx, hs, hσ, h1, fun ρ2 H2 ds vs e2 r2 hds h2 => k ρ2 H2 _ _ (e1.trans e2) r2 (.cons (r1.mono e2 d1.1) hds) h2⟩⟩
theorem su_lst (h : PA (X.suite a ((a, oe) :: pn)) es (TMXs X a cls dd y n ml)) : PE (X.suite a ((a, oe) :: pn)) (.List es pos) (TMX X a cls dd y n fun x M Q => ml x M fun ds => ds.length ≤ sizeLine ∧ Q (.fr (.lst ds))) := by
  refine (pe_lst h).sub fun σc H Qc h => ?_
  obtain ⟨ρ, M, x, Q, r, rx, hx, hs, hσ, q, k⟩ := h
  refine ⟨ρ, M, x, _, r, rx, hx, hs, hσ, q, fun ρ1 H1 ds vs e1 r1 hd h1 => ⟨by rw [← hd.len]; exact h1.1, fun p hp => ?_⟩⟩
  exact Kt.lst (Q := fun d M' => M' = M ∧ Q d) (fun ρ2 M2 H2 d v x2 r2 rr f q9 => by obtain ⟨e9, q9⟩ := q9; subst e9; exact (k.later e1) ρ2 H2 d v x2 r2 rr f q9) r1 hd ⟨rfl, h1.2⟩ hp
theorem su_rep {p : Pos} (cd : Cd X) (hg : Gl X "repr") (hm : X.mg "repr" = none) (he : PE (X.suite a ((a, oe) :: pn)) e (TMX X a cls dd y n m)) (hs : starEach [e] X.env = [(false, eval e X.env)]) :
    PE (X.suite a ((a, oe) :: pn)) (.Call (.Name "repr" p) [e] [] pos) (TMX X a cls dd y n fun x M Q => m x M fun d => opB .repr [shr d] M fun r M' => M' = M ∧ Q r) := by
  have c0 := call_repr_any (X := X.suite a ((a, oe) :: pn)) (by have := cd.guards; exact this) (by have := cd.units; exact this) cd.sys
  refine (pe_callB (es := []) c0 hg hm (by decide +kernel) (pa_cons he pa_nil hs) (by decide) (by decide) hs rfl).sub fun σc H Qc h => ?_
  obtain ⟨ρ, M, x, Q, r, rx, hx, hs, hσ, q, k⟩ := h
  refine ⟨ρ, M, x, _, r, rx, hx, hs, hσ, q, fun ρ1 H1 d v e1 r1 d1 _ h1 => ?_⟩
  obtain ⟨d', p', ed, hp, hf, e2, q⟩ := h1
  cases ed
  exact ⟨ρ1, M, _, _, p', rfl, r1, d1.1, hp, hf, (k.later e1).old r1 (.str _) q⟩
theorem su_ite (hc : PE (X.suite a ((a, oe) :: pn)) c (TMX X a cls dd y n mc)) (hi : ∀ whole, isTrue c X.env whole = (do let v ← whole; standAt c.pos; holding [v] (truthy v))) (ha : PE (X.suite a ((a, oe) :: pn)) e (TMX X a cls dd y n ma)) (hb : PE (X.suite a ((a, oe) :: pn)) b (TMX X a cls dd y n mb)) :
    PE (X.suite a ((a, oe) :: pn)) (.IfExp c e b pos) (TMX X a cls dd y n fun x M Q => mc x M fun d => truth (shr d) M fun k => if k = true then ma x M Q else mb x M Q) := by
  refine (pe_ifExp (pt_truth hc hi) ha hb).sub fun σc H Qc h => ?_
  obtain ⟨ρ, M, x, Q, r, rx, hx, hs, hσ, q, k⟩ := h
  refine ⟨ρ, M, x, _, r, rx, hx, hs, hσ, q, fun ρ1 H1 d v e1 r1 d1 _ h1 => ?_⟩
  obtain ⟨t, h2, q2⟩ := truth_ok (X := X) r1 d1.1 h1
  refine ⟨t, h2, ?_⟩
  cases t with
  | true => rw [if_pos rfl] at q2 ⊢; exact ⟨ρ1, M, x, Q, r1, rx.mono r e1, hx, hs, hσ, q2, k.later e1⟩
  | false => rw [if_neg Bool.false_ne_true] at q2 ⊢; exact ⟨ρ1, M, x, Q, r1, rx.mono r e1, hx, hs, hσ, q2, k.later e1⟩
end
end Lay

set_option Elab.async false
set_option maxRecDepth 100000
set_option linter.all false
/-! Lay, part Xc: try, with clauses that may name what they catch. -/
namespace Lay
open PySem L2 PyProof.Rows
/-- a clause: its class, its name's slot, its suite -/
abbrev Cl := Value × Option Nat × (Addr → Value → Option Addr → TS)
def inS (n : Option Nat) (a : Addr) (σ : L2.St) : L2.St := match n with
  | none => σ
  | some i => σ.set i (some (.ref a))
def outE (n : Option Nat) (D : Ends) : Ends := match n with
  | none => D
  | some i => ⟨fun σ' H' => D.nx (σ'.set i none) H', D.rt, fun σ' H' => D.bk (σ'.set i none) H', fun σ' H' => D.ct (σ'.set i none) H'⟩
def wCl (K : PySem.W.Frag) (Wo : WX) (D : Ends) : List Cl → WX
  | [] => Wo
  | (c, n, ts) :: r => fun cls d σ H => ∃ b, PySem.W.exmOne K cls c = some b ∧ (b = true → ∀ a, H a = none → ts a cls d (outE n D) (inS n a σ) H) ∧ (b = false → wCl K Wo D r cls d σ H)
inductive ClOk (X : Cx) : List ExceptHandler → List Cl → Prop
  | nil : ClOk X [] []
  | plain {y : Str} {c : Value} {ts : Addr → Value → Option Addr → TS} {s0 : Stmt} {sts : List Stmt} {np p : Pos} {hds : List ExceptHandler} {l : List Cl} (hc : Names X y c)
      (hs : ∀ (a : Addr) (oe : Obj) (cls : Value) (d : Option Addr) (pn : List (Addr × Obj)), Zc cls d oe → (∃ vs, oe.data = .fields vs) → PSs (X.suite a ((a, oe) :: pn)) (s0 :: sts) (ts a cls d)) (r : ClOk X hds l) :
      ClOk X (.ExceptHandler (some (.Name y np)) none (s0 :: sts) p :: hds) ((c, none, ts) :: l)
  | named {y nm : Str} {i : Nat} {c : Value} {ts : Addr → Value → Option Addr → TS} {s0 : Stmt} {sts : List Stmt} {np p : Pos} {hds : List ExceptHandler} {l : List Cl} (hc : Names X y c) (hi : X.N[i]? = some nm) (hl : X.env.kindOf nm = some .local)
      (hs : ∀ (a : Addr) (oe : Obj) (cls : Value) (d : Option Addr) (pn : List (Addr × Obj)), Zc cls d oe → (∃ vs, oe.data = .fields vs) → PSs (X.suite a ((a, oe) :: pn)) (s0 :: sts) (ts a cls d)) (r : ClOk X hds l) :
      ClOk X (.ExceptHandler (some (.Name y np)) (some nm) (s0 :: sts) p :: hds) ((c, some i, ts) :: l)
section
variable {X : Cx} {body : List Stmt} {h0 : ExceptHandler} {hds : List ExceptHandler} {l : List Cl} {pos : Pos} {tb : WX → TS} {Wo : WX}
/-- what is raised lies caught in this frame -/
structure Lies (X : Cx) (pins : List (Addr × Obj)) (σ : L2.St) (H : Hp) (a : Addr) (cls : Value) (d : Option Addr) (B : Heap) (s s' : Shared) : Prop where
  J : Inv X pins σ H s
  nb : ∀ b o, s.heap.get? b = some o → b ∉ frs X.stack → B.get? b = some o
  up : s.heap.UpToSlots s'.heap
  fl : HandSPX.FlyingZ B (X.env :: X.outer) a (Zc cls d) s'.heap
  na : H a = none
  os : s'.os = s.os
  ag : AllBare s'.gens
theorem Lies.inv {pins : List (Addr × Obj)} {σ : L2.St} {H : Hp} {a : Addr} {cls : Value} {d : Option Addr} {B : Heap} {s s' : Shared} (z : Lies X pins σ H a cls d B s s') : Inv X pins σ H s' := z.J.landed z.nb z.fl.1 z.up z.os z.ag
theorem Lies.noframe {pins : List (Addr × Obj)} {σ : L2.St} {H : Hp} {a : Addr} {cls : Value} {d : Option Addr} {B : Heap} {s s' : Shared} (z : Lies X pins σ H a cls d B s s') (hf : X.env.frame = some X.env.locals) :
    ∃ oe vs, s'.heap.get? a = some oe ∧ Zc cls d oe ∧ oe.data = .fields vs ∧ a ≠ X.env.locals ∧ a ∉ X.fs := by
  obtain ⟨oe, vs, e1, e2, e3⟩ := z.fl.there
  have no : a ∉ frs (X.env :: X.outer) := fun hm => by
    obtain ⟨_, o2, e4, e5⟩ := z.fl.2.2.1.mem hm
    rw [e1] at e4; cases e4
    exact e5 _ e3
  refine ⟨oe, vs, e1, e2, e3, fun q => no (List.mem_filterMap.mpr ⟨X.env, List.mem_cons_self, by rw [hf, q]⟩), fun hm => ?_⟩
  obtain ⟨ev, h1, h2⟩ := List.mem_filterMap.mp hm
  exact no (List.mem_filterMap.mpr ⟨ev, List.mem_cons_of_mem _ h1, h2⟩)
/-- the clauses, one after the other -/
theorem chain {D : Ends} {pins : List (Addr × Obj)} {σ : L2.St} {H : Hp} {a : Addr} {cls : Value} {d : Option Addr} {B : Heap} {s s' : Shared} (hst : X.stack = X.env :: X.outer) (hf : X.env.frame = some X.env.locals) (hN : X.N.Nodup) (tk : Takes X Wo) (z : Lies X pins σ H a cls d B s s')
    (hk : ClOk X hds l) : wCl X.K Wo D l cls d σ H → wpAny (model X.prog X.w) X.A (handleBy (.ref a) X.env hds) (SP X pins D) X.xe s' := by
  have ok := z.J.ok
  obtain ⟨oe, vs, e1, e2, e3, nL, nF⟩ := z.noframe hf
  have S0 := z.inv.suite e1 e3 z.na nL nF
  -- the name of a clause's class; what it answers
  have test : ∀ {y : Str} {c : Value} {np : Pos} {Q : Value → Shared → Prop} {E : Value → Shared → Prop}, Names X y c → Q c s' → wpAny (model X.prog X.w) (X.A.mark (some (.ref a))) (eval (.Name y np) X.env) Q E s' := by
    intro y c np Q E hc q
    obtain ⟨hg, hdb, hm | ⟨hm, hv, hn⟩⟩ := hc
    · exact ld_glob (X := X.suite a ((a, oe) :: (X.pn ++ pins))) S0 hg hm q hdb
    · exact ld_blt (X := X.suite a ((a, oe) :: (X.pn ++ pins))) S0 hg hm hv q hn hdb
  have lt : PySem.W.Looks (model X.prog X.w) s'.heap (typeOf (.ref a)) cls := fun A Q E s k q => wpAny_typeOf_ref (k _ _ e1) (by rw [e2.1]; exact q)
  -- the same, its flight set to none once more
  have again : ∀ {h4 : Heap}, HandSPX.FlyingZ B (X.env :: X.outer) a (Zc cls d) h4 → s'.heap.UpToSlots h4 → Lies X pins σ H a cls d B s { s' with heap := h4 } := fun {h4} fl4 up4 => ⟨z.J, z.nb, z.up.trans up4, fl4, z.na, z.os, z.ag⟩
  -- a suite's ends
  have ends : ∀ {n : Option Nat} {s5 : Shared} {oe4 : Obj} {f : Flow}, SP (X.suite a ((a, oe4) :: (X.pn ++ pins))) [] (outE n D) f s5 → n = none → SP X pins D f s5 := by
    intro n s5 oe4 f hsp hn
    subst hn
    cases f with
    | ret u => obtain ⟨v6, σ6, H6, S6, r6, q6⟩ := hsp; exact ⟨_, _, _, S6.unsuite ok, r6, q6⟩
    | next => obtain ⟨σ6, H6, S6, q6⟩ := hsp; exact ⟨_, _, S6.unsuite ok, q6⟩
    | brk => obtain ⟨σ6, H6, S6, q6⟩ := hsp; exact ⟨_, _, S6.unsuite ok, q6⟩
    | cont => obtain ⟨σ6, H6, S6, q6⟩ := hsp; exact ⟨_, _, S6.unsuite ok, q6⟩
  induction hk with
  | nil =>
    intro w
    refine wpAny_handleBy_nil ?_
    obtain ⟨_, _, _, o1, vs1, T, oT, ts1, g1, g2, g3, g4, _⟩ := id z.fl
    have fin : wpAny (model X.prog X.w) X.A (setFlight (.ref a) X.env.frame) (fun _ s4 => wpAny (model X.prog X.w) X.A (throw (.ref a) : Sem Flow) (SP X pins D) X.xe s4) X.xe s' := by
      rw [hf]
      refine HandSPX.setFlight_upZ z.fl fun h4 hh up4 => wpAny_throw (tk _ _ ?_)
      exact ⟨a, B, s, pins, σ, H, cls, d, rfl, z.J, z.nb, z.up.trans up4, .inr (.inr (by rw [hst]; exact hh)), z.na, z.os, z.ag, w⟩
    unfold PySem.passOn
    refine wpAny_bind (wpAny_field g1 g3 g4 ?_)
    rw [if_neg (show ¬ ((Value.ref T == Value.none) = true) from by simp)]
    first
      | exact wpAny_bind (wpAny_pure (wpAny_bind fin))
      | exact wpAny_bind fin
  | plain hc hs r ih =>
    rintro ⟨b, hb, yes, no⟩
    refine wpAny_handleBy_cons (codeAny_handlers_test (test hc ((PySem.W.exm_one (M := model X.prog X.w) z.inv.kIn lt hb).here ?_))) (by intro q; cases q)
    cases b with
    | false => exact ih (no rfl)
    | true =>
      refine codeAny_handlers_suite (HandSPX.lands_againZ z.fl fun h4 fl4 up4 => ?_)
      have z4 := again fl4 up4
      obtain ⟨oe4, vs4, g1, g2, g3, nL4, nF4⟩ := z4.noframe hf
      exact wpAny_mono ((hs a oe4 cls d (X.pn ++ pins) g2 ⟨_, g3⟩).run [] _ _ H _ (z4.inv.suite g1 g3 z.na nL4 nF4) (yes rfl a z.na)) (fun f s6 q => ends (n := none) q rfl) fun _ _ q => q.elim
  | @named y nm i c ts s0 sts np p hds2 l2 hc hi hl hs r ih =>
    rintro ⟨b, hb, yes, no⟩
    refine wpAny_handleBy_cons (codeAny_handlers_test (test hc ((PySem.W.exm_one (M := model X.prog X.w) z.inv.kIn lt hb).here ?_))) (by intro q; cases q)
    cases b with
    | false => exact ih (no rfl)
    | true =>
      refine codeAny_handlers_suite_as (HandSPX.lands_againZ z.fl fun h4 fl4 up4 => ?_)
      have z4 := again fl4 up4
      obtain ⟨oe4, vs4, g1, g2, g3, nL4, nF4⟩ := z4.noframe hf
      refine store_ok (X := X.suite a ((a, oe4) :: (X.pn ++ pins))) (v := .ref a) (z4.inv.suite g1 g3 z.na nL4 nF4) hN hi (.inl hl) rfl (fun s5 S5 => ?_) (.inr hl)
      refine wpAny_mono ((hs a oe4 cls d (X.pn ++ pins) g2 ⟨_, g3⟩).run [] s5 _ H _ S5 (yes rfl a z.na)) (fun f s6 q => ?_) fun _ _ q => q.elim
      have gone : ∀ {σ6 : L2.St} {H6 : Hp} {Q : Shared → Prop}, Inv (X.suite a ((a, oe4) :: (X.pn ++ pins))) [] σ6 H6 s6 → (∀ s7, Inv X pins (σ6.set i none) H6 s7 → Q s7) →
          wpAny (model X.prog X.w) X.A (do bindName X.env nm .none; unbindBehindTheSuite X.env nm p) (fun _ s7 => Q s7) X.xe s6 := fun {σ6 H6 Q} S6 hq => gone_ok (S6.unsuite ok) hN hi hl hq
      cases f with
      | ret u => obtain ⟨v6, σ6, H6, S6, r6, q6⟩ := q; exact gone S6 fun s7 J7 => ⟨_, _, _, J7, r6, q6⟩
      | next => obtain ⟨σ6, H6, S6, q6⟩ := q; exact gone S6 fun s7 J7 => ⟨_, _, J7, q6⟩
      | brk => obtain ⟨σ6, H6, S6, q6⟩ := q; exact gone S6 fun s7 J7 => ⟨_, _, J7, q6⟩
      | cont => obtain ⟨σ6, H6, S6, q6⟩ := q; exact gone S6 fun s7 J7 => ⟨_, _, J7, q6⟩
/-- try: body, except .. (as ..): .. -/
theorem ps_tryAll (hst : X.stack = X.env :: X.outer) (hf : X.env.frame = some X.env.locals) (hN : X.N.Nodup) (tk : Takes X Wo)
    (hb : ∀ (W : WX) (pn : List (Addr × Obj)) (xe : Value → Shared → Prop), Takes (X.tr pn xe) W → PassesOwn (model X.prog X.w) X.A X.env xe → PSs (X.tr pn xe) body (tb W)) (hk : ClOk X (h0 :: hds) l) :
    PS X (.Try body (h0 :: hds) [] [] pos) (fun D σ H => tb (wCl X.K Wo D l) D σ H) := by
  refine ⟨fun pins s σ H D I h => ?_⟩
  have ok := I.ok
  have hfr : X.A.frames = some (X.env :: X.outer) := by rw [ok.frames, hst]
  refine wpAny_Try_except (wpAny_mono ((hb (wCl X.K Wo D l) (X.pn ++ pins) (fun e s1 => wpAny (model X.prog X.w) X.A (noteFrame e X.env) (fun _ s2 => wpAny (model X.prog X.w) X.A (setFlight e none) (fun _ s3 =>
    wpAny (model X.prog X.w) X.A (handleBy e X.env (h0 :: hds)) (SP X pins D) X.xe s3) X.xe s2) X.xe s1) (fun u s' xx => ?_) PassesOwn.looking).run [] s σ H D (I.toTry _) h) (fun f s1 hsp => ?_) fun e s1 he => he)
  · obtain ⟨a, B, sI, pins', σ', H', cls, d, rfl, J', nb, up, sky, na, os, ag, w⟩ := xx
    refine Sky.land Zc.steady hfr hf (by rw [← hst]; exact sky) fun h3 fl3 up3 => ?_
    exact chain hst hf hN tk ⟨J'.ofTry ok, nb, up.trans up3, fl3, na, os, ag⟩ hk w
  · cases f with
    | next => obtain ⟨σ', H', J', q⟩ := hsp; exact wpAny_execs_nil ⟨σ', H', J'.ofTry ok, q⟩
    | ret u => obtain ⟨v, σ', H', J', r, q⟩ := hsp; exact ⟨v, σ', H', J'.ofTry ok, r, q⟩
    | brk => obtain ⟨σ', H', J', q⟩ := hsp; exact ⟨σ', H', J'.ofTry ok, q⟩
    | cont => obtain ⟨σ', H', J', q⟩ := hsp; exact ⟨σ', H', J'.ofTry ok, q⟩
end
end Lay

set_option Elab.async false
set_option maxRecDepth 100000
set_option linter.all false
/-! Lay, part M: from the program's text to the small language, and that it is right. -/
namespace Lay
open PySem L2 RZ PyProof.Rows

structure CC where
  sc : Scope
  N : List Str
  fs : List (Str × Sig)
  gs : List (Str × D)
  cl : List (Nat × Nat)
  fc : List (Str × NameKind)
  xs : List Str

def bNames : List Str := ["len", "isinstance", "repr", "abs", "int", "str", "list", "tuple", "sum", "sorted", "all", "any", "max", "min", "range", "enumerate", "zip", "bool", "dict", "set"]
structure Sit (X : Cx) (W : WX) (k : Nat) (c : CC) (Γ : Gam) : Prop where
  N : X.N = c.N
  nd : c.N.Nodup
  sc : X.env.scope = c.sc
  kind : c.sc.kind = .function
  fn : ∀ x, c.fc.lookup x = some .cell → X.fn x = true
  cd : Cd X
  room : Room k X.A
  tk : Takes X W
  bt : ∀ x ∈ bNames, X.mg x = none
  cal : ∀ x g, (x, g) ∈ c.fs → Callee X k x g (Γ x)
  gl : ∀ x d, (x, d) ∈ c.gs → ∃ v u, X.mg x = some u ∧ RelV v u ∧ ∀ ρ H, RD ρ X.K H d v

def isGl (c : CC) (x : Str) : Bool := decide (c.sc.names.lookup x = some .globalImplicit) && !(x == ("__debug__" : Str)) && !(x == ("__classdict__" : Str))
def ixOf (N : List Str) (x : Str) : Option Nat := match N with
  | [] => none
  | y :: N => if y = x then some 0 else (ixOf N x).map (· + 1)
theorem ixOf_get : ∀ {N : List Str} {x : Str} {i : Nat}, ixOf N x = some i → N[i]? = some x
  | [], x, i, h => by cases h
  | y :: N, x, i, h => by
    unfold ixOf at h
    split at h
    · rename_i e
      cases h; simp [e]
    · cases hr : ixOf N x with
      | none => rw [hr] at h; cases h
      | some j =>
        rw [hr] at h
        cases h
        simpa using ixOf_get hr
def isStar : Expr → Bool
  | .Starred .. => true
  | _ => false
def isSl : Expr → Bool
  | .Slice .. => true
  | _ => false
def isComp : Expr → Bool
  | .ListComp .. => true
  | .SetComp .. => true
  | .DictComp .. => true
  | _ => false
def isSetD : Expr → Bool
  | .Set .. => true
  | _ => false
def notCall : Expr → Bool
  | .Call .. => false
  | _ => true
def isTupE : Expr → Bool
  | .Tuple .. => true
  | _ => false
def boOf : Operator → Option BO
  | .Add => some .add | .Sub => some .sub | .Mult => some .mul | .FloorDiv => some .fdiv | .Mod => some .mod | .Pow => some .pow
  | _ => none
theorem boOf_ok {o : Operator} {b : BO} (h : boOf o = some b) : o = boOp b := by
  cases o <;> simp [boOf] at h <;> subst h <;> rfl
def coOf : CmpOp → Option CO
  | .Eq => some .eq | .NotEq => some .ne | .Lt => some .lt | .LtE => some .le | .Gt => some .gt | .GtE => some .ge | .Is => some .is | .IsNot => some .isnot | .In => some .isin | .NotIn => some .notin
theorem coOf_ok {o : CmpOp} {b : CO} (h : coOf o = some b) : o = coOp b := by
  cases o <;> simp [coOf] at h <;> subst h <;> rfl
def bfOf (x : Str) : Option BF :=
  [BF.len, .isinst, .repr, .abs, .int, .str, .list, .tuple, .sum, .sorted, .all, .any, .max, .min].find? fun f => decide (bfName f = x)
theorem bfOf_ok {x : Str} {f : BF} (h : bfOf x = some f) : x = bfName f := by
  have := List.find?_some h
  simpa using (of_decide_eq_true this).symm
theorem bf_names (f : BF) : bfName f ∈ bNames := by cases f <;> decide
def mtOf (x : Str) : Option MT := [MT.append, .pop, .extend].find? fun f => decide (mtName f = x)
theorem mtOf_ok {x : Str} {f : MT} (h : mtOf x = some f) : x = mtName f := by
  have := List.find?_some h
  simpa using (of_decide_eq_true this).symm
def tyNames : List (Str × String) := [("int", "int"), ("bool", "bool"), ("str", "str"), ("tuple", "tuple"), ("list", "list"), ("dict", "dict")]

/-! ### the compiler -/
def compEs (f : Expr → Option E) : List Expr → Option Es
  | [] => some .nil
  | e :: es => if isStar e = true then none else (f e).bind fun a => (compEs f es).bind fun r => some (.cons a r)
def compKs (f : Expr → Option E) : List Keyword → Option Es
  | [] => some .nil
  | ⟨_, e, _⟩ :: es => (f e).bind fun a => (compKs f es).bind fun r => some (.cons a r)
def compCs (f : Expr → Option E) : List CmpOp → List Expr → Option Cs
  | [o], [e] => (coOf o).bind fun o' => (f e).bind fun a => some (.one o' a)
  | o :: o2 :: os, e :: e2 :: es => (coOf o).bind fun o' => (f e).bind fun a => (compCs f (o2 :: os) (e2 :: es)).bind fun r => some (.cons o' a r)
  | _, _ => none
def compBool (f : Expr → Option E) (op : BoolOp) : List Expr → Option E
  | [e] => f e
  | e :: e2 :: es => (f e).bind fun a => (compBool f op (e2 :: es)).bind fun r => some (match op with
    | .And => .and a r
    | .Or => .or a r)
  | [] => none
def compPs (f : Expr → Option E) : List (Option Expr) → List Expr → Option Ps
  | [], [] => some .nil
  | some a :: ks, e :: es => (f a).bind fun x => (f e).bind fun y => (compPs f ks es).bind fun r => some (.cons x y r)
  | _, _ => none
def compO (f : Expr → Option E) : Option Expr → Option Eo
  | none => some .none
  | some e => (f e).map .some
mutual
def compTg (c : CC) : Expr → Option Tg
  | .Name x _ => if c.sc.names.lookup x = some .local ∨ (c.sc.names.lookup x = some .cell ∧ c.fc.lookup x = some .cell) then (ixOf c.N x).map .nm else none
  | .Tuple es _ _ => (compTgs c es).map .tup
  | _ => none
def compTgs (c : CC) : List Expr → Option Tgs
  | [] => some .nil
  | e :: es => (compTg c e).bind fun a => (compTgs c es).bind fun r => some (.cons a r)
end
def compC : Const → Option D
  | .none => some .non
  | .bool b => some (.bl b)
  | .int i => some (.int i)
  | .str x => some (.str x)
  | _ => none
def compN (c : CC) (x : Str) : Option E :=
  if x = "__debug__" ∨ x = "__classdict__" then none else
  match c.sc.names.lookup x with
  | some .local => (ixOf c.N x).map .v
  | some .cell => (ixOf c.N x).map .v
  | some .free => (ixOf c.N x).map .v
  | some .globalImplicit => match c.gs.lookup x with
    | some d => some (.c d)
    | none => (tyNames.lookup x).map fun n => .c (.ty n)
  | _ => none
def kwNames (ks : List Keyword) : List Str := ks.filterMap (·.arg)
def compCall (f : Expr → Option E) (c : CC) (x : Str) (es : List Expr) (ks : List Keyword) : Option E :=
  if isGl c x = false then none else
  match c.fs.lookup x with
  | some g => if ks.isEmpty = true then (if es.length = g.ps.length then (compEs f es).map (.call x) else none)
      else if ks.all (·.arg.isSome) = true then
        match g.kw.find? fun w => decide (w.1 = es.length ∧ w.2.1 = kwNames ks) with
        | some w => (compEs f es).bind fun a => (compKs f ks).bind fun b => some (.callk x w.2.2 a b)
        | none => none
      else none
  | none => if ks.isEmpty = true ∧ es.isEmpty = false then (bfOf x).bind fun b => (compEs f es).map (.bf b) else none
def compIt (f : Expr → Option E) (c : CC) (tg it : Expr) : Option IT :=
  match it with
  | .Call (.Name x _) es [] _ =>
    if isGl c x = true ∧ x = "range" ∧ (es.length = 1 ∨ es.length = 2 ∨ es.length = 3) then (compEs f es).map .rng
    else if isGl c x = true ∧ x = "enumerate" ∧ isTupE tg = true ∧ es.length = 1 then (compEs f es).map .enm
    else if isGl c x = true ∧ x = "zip" ∧ isTupE tg = true ∧ es.length = 2 then (compEs f es).map .zip
    else (f it).map .seq
  | _ => if isSetD it = true then none else (f it).map .seq
/-- a comprehension's scope: what is free there and a cell of the def is a cell -/
def rlb (sc scope : Scope) : Scope := { scope with names := scope.names.map fun p => if (p.2 == .free && sc.kind == .function && sc.names.lookup p.1 == some .cell) = true then (p.1, .cell) else p }
def CC.inner (c : CC) (scope : Scope) : CC := { c with sc := rlb c.sc scope, fc := scope.names }
def ownOf (N : List Str) (sc : Scope) : List (Str × Nat) := sc.names.filterMap fun p => match p.2 with
  | .local => (ixOf N p.1).map fun i => (p.1, i)
  | .cell => (ixOf N p.1).map fun i => (p.1, i)
  | _ => none
def compIfs (f : Expr → Option E) : List Expr → Option Eo
  | [] => some .none
  | [e] => (f e).map .some
  | _ => none
/-- list(range(..)) -/
def isLR (x : Str) (es : List Expr) (ks : List Keyword) : Bool := decide (x = "list") && ks.isEmpty && match es with
  | [.Call (.Name y _) as [] _] => (decide (y = "range") && (decide (as.length = 1) || decide (as.length = 2))) || (decide (y = "zip") && decide (as.length = 2))
  | _ => false
def compLR (f : Expr → Option E) (c : CC) (es : List Expr) : Option E := if isGl c "list" = true then (match es with
  | [.Call (.Name y _) as [] _] => if y = "range" then (if isGl c "range" = true then (compEs f as).map .lrng else none) else (if isGl c "zip" = true then (compEs f as).map .lzip else none)
  | _ => none) else none
/-- sorted(set(..)) -/
def isSS (x : Str) (es : List Expr) (ks : List Keyword) : Bool := decide (x = "sorted") && ks.isEmpty && match es with
  | [.Call (.Name y _) as [] _] => decide (y = "set") && decide (as.length = 1)
  | _ => false
def compSS (f : Expr → Option E) (c : CC) (es : List Expr) : Option E := if isGl c "sorted" = true then (match es with
  | [.Call (.Name _ _) as [] _] => if isGl c "set" = true then (compEs f as).map .sset else none
  | _ => none) else none
def comp0 (f t : CC → Expr → Option E) (c : CC) : Expr → Option E
  | .Name x _ => compN c x
  | .Constant v _ _ => (compC v).map .c
  | .BinOp a o b _ => (boOf o).bind fun o' => (f c a).bind fun x => (f c b).bind fun y => some (.bin o' x y)
  | .UnaryOp .USub a _ => (f c a).map .neg
  | .Compare a os es _ => if lastMarks os es = true then none else (f c a).bind fun x => (compCs (f c) os es).bind fun r => some (.cmp x r)
  | .Subscript a (.Slice none none (some (.UnaryOp .USub (.Constant (.int 1) _ _) _)) _) _ => (f c a).map .rev
  | .Subscript a (.Slice lo hi none _) _ => (f c a).bind fun x => (compO (f c) lo).bind fun l => (compO (f c) hi).bind fun h => some (.sl x l h)
  | .Subscript a b _ => if isSl b = true then none else (f c a).bind fun x => (f c b).bind fun y => some (.ix x y)
  | .Tuple es _ _ => (compEs (f c) es).map .tup
  | .List es _ => (compEs (f c) es).map .lst
  | .Dict ks es _ => if ks.isEmpty = true ∧ es.isEmpty = true then some .dct0 else if ks.length ≤ 15 ∧ ks.isEmpty = false then (compPs (f c) ks es).map .dct else none
  | .Call (.Name x _) es ks _ => if isSS x es ks = true then compSS (f c) c es else if isLR x es ks = true then compLR (f c) c es else compCall (f c) c x es ks
  | .Call (.Attribute o m ap) es [] cp => if (ap.endLine == cp.line) = true ∧ es.length < 30 ∧ notCall o = true then (mtOf m).bind fun m' => (f c o).bind fun x => (compEs (f c) es).bind fun r => some (.mt m' x r) else none
  | .ListComp e [⟨tg, it, ifs, 0⟩] scope _ =>
    let c' : CC := c.inner scope
    if blkC c.N c.sc scope (ownOf c.N scope) = true then
      (compIt (f c) c tg it).bind fun i => (compTg c' tg).bind fun g => (compIfs (t c') ifs).bind fun q => (f c' e).bind fun r =>
        if tgIn g ((ownOf c.N scope).map (·.2)) = true then some (.lc g i q r ((ownOf c.N scope).map (·.2))) else none
    else none
  | _ => none
/-- what is read likewise as a value and as a test -/
def comp1 (f t : CC → Expr → Option E) (c : CC) : Expr → Option E
  | .BoolOp o es _ => compBool (f c) o es
  | .UnaryOp .Not a _ => (f c a).map .not
  | .IfExp p a b _ => (t c p).bind fun z => (f c a).bind fun x => (f c b).bind fun y => some (.ite z x y)
  | e => comp0 f t c e
def compT1 (f t : CC → Expr → Option E) (c : CC) : Expr → Option E
  | .BoolOp o es _ => compBool (t c) o es
  | .UnaryOp .Not a _ => (t c a).map .not
  | .IfExp p a b _ => (t c p).bind fun z => (t c a).bind fun x => (t c b).bind fun y => some (.ite z x y)
  | e => comp0 f t c e
mutual
def compE : Nat → CC → Expr → Option E
  | 0, _, _ => none
  | n + 1, c, e => (comp1 (compE n) (compT n) c e).map fun r => if c.cl.contains (e.pos.line, e.pos.col) = true then .mk r else r
def compT : Nat → CC → Expr → Option E
  | 0, _, _ => none
  | n + 1, c, e => compT1 (compE n) (compT n) c e
end
/-! ### the answer of an except suite -/
mutual
def compSE : Nat → CC → Option Nat → Str → Expr → Option SE
  | 0, _, _, _, _ => none
  | k + 1, c, sl, y, e => match e with
    | .Constant v _ _ => (compC v).map .c
    | .Attribute (.Name nm _) f _ => (ixOf c.N nm).bind fun i => if sl = some i ∧ c.sc.names.lookup nm = some .local ∧ xFields.lookup y = some (some f) ∧ ¬(nm = "__debug__" ∨ nm = "__classdict__") then some (.fld i f) else none
    | .Call (.Name g _) es [] _ => if g = "isinstance" then (match es with
        | [.Name nm _, .Name z _] => (ixOf c.N nm).bind fun i => if sl = some i ∧ c.sc.names.lookup nm = some .local ∧ ¬(nm = "__debug__" ∨ nm = "__classdict__") ∧ isGl c "isinstance" = true ∧ isGl c z = true ∧ tgX z = true ∧ xNm y = true ∧ z ∈ c.xs then some (.isx i z) else none
        | _ => none)
      else if g = "repr" then (match es with
        | [a] => if isStar a = true ∨ isGl c "repr" = false then none else (compSE k c sl y a).map .rep
        | _ => none)
      else none
    | .List es _ => (compSEs k c sl y es).map .lst
    | .IfExp (.Call g es ks p) a b _ => (compSE k c sl y (.Call g es ks p)).bind fun z => (compSE k c sl y a).bind fun u => (compSE k c sl y b).bind fun v => some (.ite z u v)
    | _ => none
def compSEs : Nat → CC → Option Nat → Str → List Expr → Option SEs
  | 0, _, _, _, _ => none
  | k + 1, c, sl, y, l => match l with
    | [] => some .nil
    | e :: es => if isStar e = true then none else (compSE k c sl y e).bind fun a => (compSEs k c sl y es).bind fun r => some (.cons a r)
end
def compHs (n : Nat) (c : CC) : List ExceptHandler → Option Hs
  | [] => some .nil
  | .ExceptHandler (some (.Name y _)) nm [.Return (some e) _] _ :: hds =>
    if tgX y = true ∧ y ∈ c.xs ∧ isGl c y = true then
      match nm with
      | none => (compSE n c none y e).bind fun a => (compHs n c hds).bind fun r => some (.cons y none a r)
      | some x => if c.sc.names.lookup x = some .local then (ixOf c.N x).bind fun i => (compSE n c (some i) y e).bind fun a => (compHs n c hds).bind fun r => some (.cons y (some i) a r) else none
    else none
  | _ :: _ => none
def compRaise (n : Nat) (c : CC) (x : Str) (es : List Expr) : Option S :=
  if isGl c x = true ∧ x ∈ c.xs then
    match xFields.lookup x, es with
    | some none, [] => some (.raise x none .nil)
    | some (some f), [e] => (compEs (compE n c) [e]).map (.raise x (some f))
    | _, _ => none
  else none
def dupFree : List Nat → Bool
  | [] => true
  | x :: xs => !xs.contains x && dupFree xs
def parTg (c : CC) (ln : Nat) : List Expr → Option (List Nat)
  | [] => some []
  | .Name x p :: es => if c.sc.names.lookup x = some .local ∧ (p.line == ln) = true then (ixOf c.N x).bind fun i => (parTg c ln es).map (i :: ·) else none
  | _ => none
def tgsOf : List Nat → Tgs
  | [] => .nil
  | i :: is => .cons (.nm i) (tgsOf is)
/-- not all targets are plain names of one row: the pair is made and taken apart -/
def noSwap (sc : Scope) (ts : List Expr) : Bool := decide ((ts.filterMap fun
  | .Name id pos => if (sc.names.lookup id == some .local && pos.line == ((ts.head?.map (·.pos.line)).getD 0)) = true then some id else none
  | _ => none).length ≠ ts.length)
def compA (n : Nat) (c : CC) (tg e : Expr) : Option S :=
  match tg with
  | .Subscript o i _ => if isSl i = true ∨ isTupE i = true then none else (compE n c e).bind fun z => (compE n c o).bind fun x => (compE n c i).bind fun y => some (.put x y z)
  | .Tuple ts _ _ => match e with
    | .Tuple es _ _ => if (noSwap c.sc ts || es.all (foldedForSure 8)) = true then (compTg c tg).bind fun g => (compE n c e).map (.asg g) else if es.any isStar = false ∧ es.all (foldedForSure 8) = false ∧ es.all (constantsAlone 8) = false ∧ es.length = ts.length ∧ (ts.length = 2 ∨ ts.length = 3) then
        (parTg c ((ts.head?.map (·.pos.line)).getD 0) ts).bind fun is => if dupFree is = true then (compEs (compE n c) es).map fun r => .asg (.tup (tgsOf is)) (.tup r) else none
      else none
    | _ => (compTg c tg).bind fun g => (compE n c e).map (.asg g)
  | .Name _ _ => (compTg c tg).bind fun g => (compE n c e).map (.asg g)
  | _ => none
mutual
def compS : Nat → CC → Stmt → Option S
  | 0, _, _ => none
  | n + 1, c, st => match st with
    | .Assign [tg] e _ => compA n c tg e
    | .Expr (.Constant (.str _) _ _) _ => some .pass
    | .Expr e _ => if isComp e = true then none else (compE n c e).map .ex
    | .Return (some e) _ => (compE n c e).map .ret
    | .Return none _ => some .retN
    | .If p a b _ => (compT n c p).bind fun x => (compSs n c a).bind fun y => (compSs n c b).bind fun z => some (.ite x y z)
    | .While p a [] _ => (compT n c p).bind fun x => (compSs n c a).bind fun y => some (.whl x y)
    | .For tg it a [] _ => (compIt (compE n c) c tg it).bind fun i => (compTg c tg).bind fun g => (compSs n c a).bind fun y => some (.for g i y)
    | .Break _ => some .brk
    | .Continue _ => some .cnt
    | .Pass _ => some .pass
    | .Raise (some (.Call (.Name x _) es [] _)) none _ => compRaise n c x es
    | .Try a (h :: hs) [] [] _ => (compSs n c a).bind fun b => (compHs n c (h :: hs)).bind fun r => some (.tryx b r)
    | _ => none
def compSs : Nat → CC → List Stmt → Option Ss
  | 0, _, _ => none
  | n + 1, c, l => match l with
    | [] => some .nil
    | s :: ss => (compS n c s).bind fun a => (compSs n c ss).bind fun b => some (.cons a b)
end
end Lay

set_option Elab.async false
set_option maxRecDepth 100000
set_option linter.all false
/-! Lay, part N: the compiler is right, expressions. -/
namespace Lay
open PySem L2 RZ PyProof.Rows

section
variable {X : Cx} {W : WX} {k : Nat} {c : CC} {Γ : Gam}
theorem Sit.hN (h : Sit X W k c Γ) {x : Str} {i : Nat} (e : ixOf c.N x = some i) : X.N[i]? = some x := by rw [h.N]; exact ixOf_get e
theorem Sit.ndX (h : Sit X W k c Γ) : X.N.Nodup := by rw [h.N]; exact h.nd
theorem Sit.hg (h : Sit X W k c Γ) {x : Str} (e : isGl c x = true) : Gl X x ∧ (x == ("__debug__" : Str)) = false := by
  unfold isGl at e
  simp only [Bool.and_eq_true, decide_eq_true_eq, Bool.not_eq_true'] at e
  refine ⟨?_, e.1.2⟩
  show X.env.scope.names.lookup x = _
  rw [h.sc]; exact e.1.1
theorem star_no {e : Expr} {es : List Expr} {env : Env} (h : isStar e ≠ true) : starEach (e :: es) env = (false, eval e env) :: starEach es env := by
  cases e <;> first | rfl | exact absurd rfl h
theorem back_no {pos : Pos} {l : List (Bool × Sem Value)} (h : ∀ x ∈ l, x.1 = false) : (backTo pos l).any (·.1) = false := by
  induction l with
  | nil => rfl
  | cons a l ih =>
    show (a.1 || _) = false
    rw [h a List.mem_cons_self, Bool.false_or]
    exact ih fun x hx => h x (List.mem_cons_of_mem _ hx)
/-- expressions as values, as tests -/
def SndE (f : CC → Expr → Option E) : Prop := ∀ {X : Cx} {W : WX} {k : Nat} {c : CC} {Γ : Gam}, Sit X W k c Γ → ∀ {e : Expr} {r : E}, f c e = some r → PE X e (TM X W (wp Γ r))
def SndT (f : CC → Expr → Option E) : Prop := ∀ {X : Cx} {W : WX} {k : Nat} {c : CC} {Γ : Gam}, Sit X W k c Γ → ∀ {e : Expr} {r : E}, f c e = some r → PT X e (TMT X W (wp Γ r))
variable {f t : CC → Expr → Option E}
theorem es_ok (hf : SndE f) (h : Sit X W k c Γ) : ∀ {es : List Expr} {r : Es}, compEs (f c) es = some r → PA X es (TML X W (wps Γ r)) ∧ es.length = r.len ∧ (∀ x ∈ starEach es X.env, x.1 = false) ∧ ∀ e ∈ es, isStar e ≠ true
  | [], r, e => by cases e; exact ⟨sa_nil, rfl, fun x hx => (nomatch hx), fun x hx => (nomatch hx)⟩
  | a :: es, r, e => by
    unfold compEs at e
    split at e
    · cases e
    · rename_i hs
      simp only [Option.bind_eq_some_iff] at e
      obtain ⟨x, e1, y, e2, e3⟩ := e
      cases e3
      obtain ⟨h1, h2, h3, h4⟩ := es_ok hf h e2
      refine ⟨sa_cons (hf h e1) h1 (star_no hs), by simp [Es.len, h2], fun z hz => ?_, fun z hz => ?_⟩
      · rw [star_no hs] at hz
        rcases List.mem_cons.mp hz with q | q
        · rw [q]
        · exact h3 z q
      · rcases List.mem_cons.mp hz with q | q
        · rw [q]; exact hs
        · exact h4 z q
theorem ks_ok (hf : SndE f) (h : Sit X W k c Γ) : ∀ {es : List Keyword} {r : Es}, compKs (f c) es = some r → PK X es (TML X W (wps Γ r)) ∧ es.length = r.len
  | [], r, e => by cases e; exact ⟨sk_nil, rfl⟩
  | ⟨nm, a, p⟩ :: es, r, e => by
    simp only [compKs, Option.bind_eq_some_iff] at e
    obtain ⟨x, e1, y, e2, e3⟩ := e
    cases e3
    obtain ⟨h1, h2⟩ := ks_ok hf h e2
    exact ⟨sk_cons (hf h e1) h1, by simp [Es.len, h2]⟩
theorem cs_ok (hf : SndE f) (h : Sit X W k c Γ) : ∀ {os : List CmpOp} {es : List Expr} {r : Cs}, compCs (f c) os es = some r → PCh X W os es fun x => wpC Γ r x
  | [], _, r, e => by simp [compCs] at e
  | [o], [], r, e => by simp [compCs] at e
  | [o], [a], r, e => by
    simp only [compCs, Option.bind_eq_some_iff] at e
    obtain ⟨o', e0, x, e1, e3⟩ := e
    cases e3
    rw [coOf_ok e0]
    exact pch_one h.cd.units o' (hf h e1)
  | [o], a :: b :: es, r, e => by simp [compCs] at e
  | o :: o2 :: os, [], r, e => by simp [compCs] at e
  | o :: o2 :: os, [a], r, e => by simp [compCs] at e
  | o :: o2 :: os, a :: b :: es, r, e => by
    simp only [compCs, Option.bind_eq_some_iff] at e
    obtain ⟨o', e0, x, e1, y, e2, e3⟩ := e
    cases e3
    rw [coOf_ok e0]
    exact pch_cons h.cd.units o' (hf h e1) (cs_ok hf h e2)
theorem ps_ok {pos : Pos} (hf : SndE f) (h : Sit X W k c Γ) : ∀ {ks : List (Option Expr)} {es : List Expr} {r : Ps}, compPs (f c) ks es = some r → PPd X W pos ks es (wpP Γ r)
  | [], [], r, e => by cases e; exact pp_nil
  | [], _ :: _, r, e => by simp [compPs] at e
  | none :: _, _, r, e => by simp [compPs] at e
  | some a :: ks, [], r, e => by simp [compPs] at e
  | some a :: ks, b :: es, r, e => by
    simp only [compPs, Option.bind_eq_some_iff] at e
    obtain ⟨x, e1, y, e2, z, e3, e4⟩ := e
    cases e4
    exact pp_cons (hf h e1) (hf h e2) (ps_ok hf h e3)
theorem o_ok (hf : SndE f) (h : Sit X W k c Γ) : ∀ {o : Option Expr} {r : Eo}, compO (f c) o = some r → PO X o (TMO X W (wpO Γ r))
  | none, r, e => by cases e; exact so_none
  | some a, r, e => by
    simp only [compO, Option.map_eq_some_iff] at e
    obtain ⟨x, e1, e2⟩ := e
    cases e2
    exact so_some (hf h e1)
theorem bool_ok {op : BoolOp} {pos : Pos} (hf : SndE f) (h : Sit X W k c Γ) : ∀ {es : List Expr} {r : E}, compBool (f c) op es = some r → PE X (.BoolOp op es pos) (TM X W (wp Γ r))
  | [], r, e => by simp [compBool] at e
  | [a], r, e => pe_one (hf h (by simpa [compBool] using e))
  | a :: b :: es, r, e => by
    simp only [compBool, Option.bind_eq_some_iff] at e
    obtain ⟨x, e1, y, e2, e3⟩ := e
    cases op with
    | And => cases e3; exact se_and (hf h e1) (bool_ok hf h e2)
    | Or => cases e3; exact se_or (hf h e1) (bool_ok hf h e2)
theorem boolT_ok {op : BoolOp} {pos : Pos} (hf : SndT t) (h : Sit X W k c Γ) : ∀ {es : List Expr} {r : E}, compBool (t c) op es = some r → PW X (.BoolOp op es pos) (TMT X W (wp Γ r))
  | [], r, e => by simp [compBool] at e
  | [a], r, e => by
    have q := hf h (e := a) (r := r) (by simpa [compBool] using e)
    cases op with
    | And => exact pw_and1 q
    | Or => exact pw_or1 q
  | a :: b :: es, r, e => by
    simp only [compBool, Option.bind_eq_some_iff] at e
    obtain ⟨x, e1, y, e2, e3⟩ := e
    cases op with
    | And => cases e3; exact sw_and (hf h e1) (boolT_ok hf h e2)
    | Or => cases e3; exact sw_or (hf h e1) (boolT_ok hf h e2)
theorem loc_of (h : Sit X W k c Γ) {x : Str} (e : c.sc.names.lookup x = some .local ∨ (c.sc.names.lookup x = some .cell ∧ c.fc.lookup x = some .cell)) : Loc X.env.scope x ∧ (X.fn x = true ∨ X.env.scope.names.lookup x = some .local) := by
  rw [h.sc]
  exact ⟨e.imp id And.left, e.elim .inr fun q => .inl (h.fn x q.2)⟩
mutual
theorem tg_ok (h : Sit X W k c Γ) : ∀ (e : Expr) (r : Tg), compTg c e = some r → PG X e (TMG X r)
  | .Name x p, r, e => by
    simp only [compTg] at e
    split at e
    · rename_i hl
      simp only [Option.map_eq_some_iff] at e
      obtain ⟨i, e1, e2⟩ := e
      cases e2
      obtain ⟨h1, h2⟩ := loc_of h hl
      exact sg_nm h.ndX (h.hN e1) h1 h2
    · cases e
  | .Tuple es kk p, r, e => by
    simp only [compTg, Option.map_eq_some_iff] at e
    obtain ⟨i, e1, e2⟩ := e
    cases e2
    obtain ⟨h1, h2, h3⟩ := tgs_ok h es i e1
    exact sg_tup h.cd.calm h1 h2 h3
  | .BoolOp .., _, e => by simp [compTg] at e
  | .NamedExpr .., _, e => by simp [compTg] at e
  | .BinOp .., _, e => by simp [compTg] at e
  | .UnaryOp .., _, e => by simp [compTg] at e
  | .Lambda .., _, e => by simp [compTg] at e
  | .IfExp .., _, e => by simp [compTg] at e
  | .Dict .., _, e => by simp [compTg] at e
  | .Set .., _, e => by simp [compTg] at e
  | .ListComp .., _, e => by simp [compTg] at e
  | .SetComp .., _, e => by simp [compTg] at e
  | .DictComp .., _, e => by simp [compTg] at e
  | .GeneratorExp .., _, e => by simp [compTg] at e
  | .Await .., _, e => by simp [compTg] at e
  | .Yield .., _, e => by simp [compTg] at e
  | .YieldFrom .., _, e => by simp [compTg] at e
  | .Compare .., _, e => by simp [compTg] at e
  | .Call .., _, e => by simp [compTg] at e
  | .FormattedValue .., _, e => by simp [compTg] at e
  | .JoinedStr .., _, e => by simp [compTg] at e
  | .Constant .., _, e => by simp [compTg] at e
  | .Attribute .., _, e => by simp [compTg] at e
  | .Subscript .., _, e => by simp [compTg] at e
  | .Starred .., _, e => by simp [compTg] at e
  | .List .., _, e => by simp [compTg] at e
  | .Slice .., _, e => by simp [compTg] at e
theorem tgs_ok (h : Sit X W k c Γ) : ∀ (es : List Expr) (r : Tgs), compTgs c es = some r → PGs X es (TMGs X r) ∧ (assignEach es X.env).length = r.len ∧ (assignEach es X.env).findIdx? (·.1) = none
  | [], r, e => by simp [compTgs] at e; subst e; exact ⟨sgs_nil, rfl, rfl⟩
  | a :: es, r, e => by
    simp only [compTgs, Option.bind_eq_some_iff] at e
    obtain ⟨x, e1, y, e2, e3⟩ := e
    cases e3
    obtain ⟨h1, h2, h3⟩ := tgs_ok h es y e2
    have hs : assignEach (a :: es) X.env = (false, assign a X.env) :: assignEach es X.env := by
      cases a <;> first | rfl | (simp [compTg] at e1)
    refine ⟨sgs_cons (tg_ok h a x e1) h1 (by rw [hs]; rfl), by rw [hs]; simp [Tgs.len, h2], by rw [hs, List.findIdx?_cons]; simp [h3]⟩
end
theorem c_ok {x : Const} {d : D} {kk : Nat} {pos : Pos} (e : compC x = some d) : PE X (.Constant x kk pos) (TM X W fun _ M _ Q => Q d M) := by
  cases x <;> simp [compC] at e <;> subst e
  · exact se_c pe_non fun _ _ => .non
  · exact se_c pe_bl fun _ _ => .bl _
  · exact se_c pe_int fun _ _ => .int _
  · exact se_c pe_str fun _ _ => .str _
theorem ty_ok (h : Sit X W k c Γ) {x : Str} {n : String} {pos : Pos} (hg : Gl X x) (e : tyNames.lookup x = some n) : PE X (.Name x pos) (TM X W fun _ M _ Q => Q (.ty n) M) := by
  have key : ∀ p ∈ tyNames, p.1 ∈ bNames ∧ bootBuiltins p.1 = some (.type p.2) ∧ p.1 ≠ "__name__" ∧ (p.1 == ("__debug__" : Str)) = false := by decide +kernel
  have hm := PySem.mem_of_lookup e
  obtain ⟨h1, h2, h3, h4⟩ := key _ hm
  exact se_c (pe_bltn (v := .ty n) hg (h.bt x h1) h2 rfl h3 h4) fun _ _ => .ty _
theorem n_ok (h : Sit X W k c Γ) {x : Str} {r : E} {pos : Pos} (e : compN c x = some r) : PE X (.Name x pos) (TM X W (wp Γ r)) := by
  unfold compN at e
  split at e
  · cases e
  · rename_i hd
    simp only [not_or] at hd
    have d1 : (x == ("__debug__" : Str)) = false := by simpa using hd.1
    have d2 : (x == ("__classdict__" : Str)) = false := by simpa using hd.2
    have var : ∀ {i : Nat}, ixOf c.N x = some i → Vis X.env.scope x → PE X (.Name x pos) (TM X W (wp Γ (.v i))) := fun {i} e1 hv => se_v (h.hN e1) hv d1 d2
    split at e
    · rename_i hl
      simp only [Option.map_eq_some_iff] at e
      obtain ⟨i, e1, e2⟩ := e
      cases e2
      exact var e1 (by rw [h.sc]; exact .inl hl)
    · rename_i hl
      simp only [Option.map_eq_some_iff] at e
      obtain ⟨i, e1, e2⟩ := e
      cases e2
      exact var e1 (by rw [h.sc]; exact .inr (.inl hl))
    · rename_i hl
      simp only [Option.map_eq_some_iff] at e
      obtain ⟨i, e1, e2⟩ := e
      cases e2
      exact var e1 (by rw [h.sc]; exact .inr (.inr hl))
    · rename_i hl
      have hg : Gl X x := by
        show X.env.scope.names.lookup x = _
        rw [h.sc]; exact hl
      split at e
      · rename_i d hgs
        cases e
        obtain ⟨v, u, h1, h2, h3⟩ := h.gl x d (PySem.mem_of_lookup hgs)
        exact se_c (pe_glob hg h1 h2 d1) h3
      · simp only [Option.map_eq_some_iff] at e
        obtain ⟨i, e1, e2⟩ := e
        cases e2
        exact ty_ok h hg e1
    · cases e
theorem kw_hall {ks : List Keyword} {pos : Pos} (e : ks.all (·.arg.isSome) = true) : (backToKw pos (keywordEach ks X.env)).all (·.1.isSome) = true ∧ (backToKw pos (keywordEach ks X.env)).filterMap (·.1) = kwNames ks ∧ (backToKw pos (keywordEach ks X.env)).any (·.1.isNone) = false := by
  induction ks with
  | nil => exact ⟨rfl, rfl, rfl⟩
  | cons a ks ih =>
    obtain ⟨nm, v, p⟩ := a
    rw [List.all_cons, Bool.and_eq_true] at e
    obtain ⟨i1, i2, i3⟩ := ih e.2
    cases nm with
    | none => cases e.1
    | some nm =>
      refine ⟨?_, ?_, ?_⟩
      · show (true && _) = true
        rw [Bool.true_and]; exact i1
      · show nm :: _ = nm :: _
        exact congrArg _ i2
      · show (false || _) = false
        rw [Bool.false_or]; exact i3
theorem kw_len : ∀ {ks : List Keyword}, ks.all (·.arg.isSome) = true → (kwNames ks).length = ks.length
  | [], _ => rfl
  | ⟨nm, v, p⟩ :: ks, e => by
    rw [List.all_cons, Bool.and_eq_true] at e
    cases nm with
    | none => cases e.1
    | some nm => exact congrArg Nat.succ (kw_len e.2)
theorem call_ok (hf : SndE f) (h : Sit X W k c Γ) {x : Str} {es : List Expr} {ks : List Keyword} {r : E} {p pos : Pos} (e : compCall (f c) c x es ks = some r) : PE X (.Call (.Name x p) es ks pos) (TM X W (wp Γ r)) := by
  unfold compCall at e
  split at e
  · cases e
  · rename_i hgl
    have hgl' : isGl c x = true := by cases q : isGl c x <;> first | rfl | exact absurd q hgl
    obtain ⟨hg, hdb⟩ := h.hg hgl'
    split at e
    · rename_i g hfs
      have C := h.cal x g (PySem.mem_of_lookup hfs)
      split at e
      · rename_i hk
        have hk' : ks = [] := by simpa using hk
        subst hk'
        split at e
        · rename_i hl
          simp only [Option.map_eq_some_iff] at e
          obtain ⟨a, e1, e2⟩ := e
          cases e2
          obtain ⟨h1, h2, h3, h4⟩ := es_ok hf h e1
          cases es with
          | nil =>
            cases e1
            have hp : g.ps = [] := by cases q : g.ps with
              | nil => rfl
              | cons _ _ => rw [q] at hl; cases hl
            exact (se_call0 C h.room h.cd.guards h.tk hg hdb hp).sub fun σc H Qc ⟨ρ, M, σ, Q, Xp, r, s, q, kt, kx⟩ => ⟨ρ, M, σ, Q, Xp, r, s, q.2, kt, kx⟩
          | cons a0 es =>
            have ha0 := h4 a0 List.mem_cons_self
            have q := se_call (p := p) (pos := pos) C h.room h.cd.guards h.tk hg hdb h1 hl (star_no ha0) (back_no fun z hz => h3 z (by rw [star_no ha0]; exact List.mem_cons_of_mem _ hz))
            rw [← hl, h2] at q
            exact q
        · cases e
      · rename_i hk
        split at e
        · rename_i hall
          obtain ⟨k1, k2, k3⟩ := kw_hall (X := X) (pos := pos) hall
          split at e
          · rename_i w hw
            simp only [Option.bind_eq_some_iff] at e
            obtain ⟨a, e1, b, e2, e3⟩ := e
            cases e3
            obtain ⟨n, wks, pm⟩ := w
            have hw1 := List.mem_of_find?_eq_some hw
            have hw2 := List.find?_some hw
            simp only [decide_eq_true_eq] at hw2
            obtain ⟨hn, hnm⟩ := hw2
            subst hn hnm
            obtain ⟨h1, h2, h3, h4⟩ := es_ok hf h e1
            obtain ⟨h5, h6⟩ := ks_ok hf h e2
            have hkl := kw_len hall
            cases es with
            | nil =>
              cases e1
              have q := se_callK0 (p := p) (pos := pos) C h.room h.cd.guards h.tk hg hdb h5 hw1 k1 k2 (by show (false || _) = false; rw [Bool.false_or]; exact k3)
              refine q.sub fun σc H Qc ⟨ρ, M, σ, Q, Xp, r, s, q, kt, kx⟩ => ⟨ρ, M, σ, Q, Xp, r, s, ?_, kt, kx⟩
              rw [hkl, h6]
              have q' : wps Γ b σ M Xp fun zs M2 => (([] : List D).length = Es.len .nil ∧ zs.length = b.len ∧ Γ x (perm pm ([] ++ zs)) M2 Xp Q) := q
              simpa [Es.len] using q'
            | cons a0 es =>
              have ha0 := h4 a0 List.mem_cons_self
              have q := se_callK (p := p) (pos := pos) C h.room h.cd.guards h.tk hg hdb h1 h5 hw1 k1 k2 (star_no ha0) (by rw [back_no h3, Bool.false_or]; exact k3)
              rw [hkl, h6, h2] at q
              exact q
          · cases e
        · cases e
    · split at e
      · rename_i hk
        simp only [Option.bind_eq_some_iff, Option.map_eq_some_iff] at e
        obtain ⟨b, e0, a, e1, e2⟩ := e
        cases e2
        have hks : ks = [] := by simpa using hk.1
        subst hks
        obtain ⟨h1, h2, h3, h4⟩ := es_ok hf h e1
        rw [bfOf_ok e0] at hg ⊢
        cases es with
        | nil => cases hk.2
        | cons a0 es =>
          have ha0 := h4 a0 List.mem_cons_self
          exact se_bf h.cd b hg (h.bt _ (bf_names b)) h1 (star_no ha0) (back_no fun z hz => h3 z (by rw [star_no ha0]; exact List.mem_cons_of_mem _ hz))
      · cases e
end
end Lay

set_option Elab.async false
set_option maxRecDepth 100000
set_option linter.all false
/-! Lay, part O: the compiler is right, whole expressions. -/
namespace Lay
open PySem L2 RZ PyProof.Rows

section
variable {X : Cx} {W : WX} {k : Nat} {c : CC} {Γ : Gam} {f t : CC → Expr → Option E}
theorem own_ok {N : List Str} {sc : Scope} : ∀ p ∈ ownOf N sc, N[p.2]? = some p.1 := by
  intro p hp
  unfold ownOf at hp
  rw [List.mem_filterMap] at hp
  obtain ⟨⟨x, kd⟩, _, q⟩ := hp
  cases kd <;> simp at q
  all_goals
    obtain ⟨i, e1, e2⟩ := q
    subst e2
    exact ixOf_get e1
theorem plain_ix {b : Expr} (h : isSl b ≠ true) : PlainIx b := by
  cases b <;> first | exact fun _ _ => rfl | exact absurd rfl h
theorem fold_no {b : Expr} {env : Env} (h : isSetD b ≠ true) : ∀ x, foldedSetIterable b env x = pure x := by
  cases b <;> first | exact fun _ => rfl | exact absurd rfl h
theorem it_ok (hf : SndE f) (h : Sit X W k c Γ) {tg it : Expr} {r : IT} (e : compIt (f c) c tg it = some r) : PI X tg it (TMI X W (wpI Γ r)) ∧ isSetD it ≠ true := by
  have plain : ∀ {it : Expr} {r : IT}, (f c it).map IT.seq = some r → PI X tg it (TMI X W (wpI Γ r)) := fun {it r} e => by
    simp only [Option.map_eq_some_iff] at e
    obtain ⟨x, e1, e2⟩ := e
    cases e2
    exact si_seq (hf h e1)
  have mp : ∀ {es : List Expr} {g : Es → IT} {r : IT}, (compEs (f c) es).map g = some r → ∃ a, compEs (f c) es = some a ∧ r = g a := fun {es g r} e => by
    simp only [Option.map_eq_some_iff] at e
    obtain ⟨x, e1, e2⟩ := e
    exact ⟨x, e1, e2.symm⟩
  unfold compIt at e
  split at e
  · rename_i x p es pos
    refine ⟨?_, by simp [isSetD]⟩
    split at e
    · rename_i hr
      obtain ⟨hg, hx, hl⟩ := hr
      subst hx
      obtain ⟨a, e1, rfl⟩ := mp e
      obtain ⟨h1, h2, h3, h4⟩ := es_ok hf h e1
      have hm : X.mg "range" = none := h.bt _ (by decide)
      have hgl := (h.hg hg).1
      match es, hl, h1, h2, h3, h4 with
      | [a1], _, h1, h2, h3, h4 =>
        have := si_rng1 (pos := pos) (p := p) (tg := tg) hgl hm h1 (star_no (h4 a1 (by simp)))
        rw [show (1 : Nat) = a.len from h2] at this
        exact this
      | [a1, a2], _, h1, h2, h3, h4 =>
        have s2 : starEach [a2] X.env = [(false, eval a2 X.env)] := star_no (h4 a2 (by simp))
        have := si_rng2 (pos := pos) (p := p) (tg := tg) hgl hm h1 (by rw [star_no (h4 a1 (by simp)), s2]) s2
        rw [show (2 : Nat) = a.len from h2] at this
        exact this
      | [a1, a2, a3], _, h1, h2, h3, h4 =>
        have := si_rng3 (pos := pos) (p := p) (tg := tg) hgl hm h1 (star_no (h4 a1 (by simp))) (back_no fun z hz => h3 z (by rw [star_no (h4 a1 (by simp))]; exact List.mem_cons_of_mem _ hz))
        rw [show (3 : Nat) = a.len from h2] at this
        exact this
      | [], hl, _, _, _, _ => simp at hl
      | _ :: _ :: _ :: _ :: _, hl, _, _, _, _ => simp at hl
    · split at e
      · rename_i hr
        obtain ⟨hg, hx, ht, hl⟩ := hr
        subst hx
        obtain ⟨a, e1, rfl⟩ := mp e
        obtain ⟨h1, h2, h3, h4⟩ := es_ok hf h e1
        have hm : X.mg "enumerate" = none := h.bt _ (by decide)
        have hgl := (h.hg hg).1
        match es, hl, h1, h2, h3, h4 with
        | [a1], _, h1, h2, h3, h4 =>
          cases tg <;> first | exact si_enm hgl hm h1 (star_no (h4 a1 (by simp))) | (cases ht)
      · split at e
        · rename_i hr
          obtain ⟨hg, hx, ht, hl⟩ := hr
          subst hx
          obtain ⟨a, e1, rfl⟩ := mp e
          obtain ⟨h1, h2, h3, h4⟩ := es_ok hf h e1
          have hm : X.mg "zip" = none := h.bt _ (by decide)
          have hgl := (h.hg hg).1
          match es, hl, h1, h2, h3, h4 with
          | [a1, a2], _, h1, h2, h3, h4 =>
            cases tg <;> first | exact si_zip hgl hm h1 (star_no (h4 a1 (by simp))) (back_no fun z hz => h3 z (by rw [star_no (h4 a1 (by simp))]; exact List.mem_cons_of_mem _ hz)) | (cases ht)
        · exact plain e
  · split at e
    · cases e
    · rename_i hs
      exact ⟨plain e, hs⟩
theorem ifs_ok (hf : SndT t) (h : Sit X W k c Γ) {ifs : List Expr} {r : Eo} (e : compIfs (t c) ifs = some r) : PTs X ifs (TMK X W (wpK Γ r)) := by
  match ifs, e with
  | [], e => cases e; exact sts_nil
  | [a], e =>
    simp only [compIfs, Option.map_eq_some_iff] at e
    obtain ⟨x, e1, e2⟩ := e
    cases e2
    exact sts_one (hf h e1)
  | _ :: _ :: _, e => simp [compIfs] at e
theorem Sit.blk (h : Sit X W k c Γ) {s : Shared} {H : Hp} {C : Addr} {cl : List (Str × Addr)} {fp : List Addr} {scope : Scope} (hk : scope.kind = .function) : Sit (X.blk s H scope (compEnvC scope cl C X.env) fp) (fun _ _ _ _ => False) k (c.inner scope) Γ where
  N := h.N
  nd := h.nd
  sc := by
    show relabel scope X.env = rlb c.sc scope
    unfold relabel rlb Env.kindOf
    rw [h.sc]
  kind := hk
  fn := fun x e => by
    have e' : scope.names.lookup x = some .cell := e
    show (scope.names.lookup x == some .cell) = true
    rw [e']; rfl
  cd := ⟨h.cd.calm, h.cd.units, h.cd.guards, h.cd.sys⟩
  room := h.room
  tk := fun u s' z => by
    obtain ⟨_, _, _, _, _, _, _, _, _, _, _, _, _, _, _, _, q⟩ := z
    exact q.elim
  bt := h.bt
  cal := fun x g e => ⟨(h.cal x g e).ex⟩
  gl := h.gl
theorem lc_parts (hf : SndE f) (ht : SndT t) (h : Sit X W k c Γ) {elt tg : Expr} {ifs : List Expr} {scope : Scope} {g : Tg} {q : Eo} {x : E} (hb : blkC c.N c.sc scope (ownOf c.N scope) = true)
    (e2 : compTg (c.inner scope) tg = some g) (e3 : compIfs (t (c.inner scope)) ifs = some q) (e4 : f (c.inner scope) elt = some x) :
    BlkOk X.N X.env.scope scope (ownOf c.N scope) ∧
    (∀ (s : Shared) (H : Hp) (C : Addr) (cl : List (Str × Addr)) (fp : List Addr), PG (X.blk s H scope (compEnvC scope cl C X.env) fp) tg (TMG X g)) ∧
    (∀ (s : Shared) (H : Hp) (C : Addr) (cl : List (Str × Addr)) (fp : List Addr), PTs (X.blk s H scope (compEnvC scope cl C X.env) fp) ifs (TMK X (fun _ _ _ _ => False) (wpK Γ q))) ∧
    (∀ (s : Shared) (H : Hp) (C : Addr) (cl : List (Str × Addr)) (fp : List Addr), PE (X.blk s H scope (compEnvC scope cl C X.env) fp) elt (TM X (fun _ _ _ _ => False) (wp Γ x))) := by
  have ok : BlkOk X.N X.env.scope scope (ownOf c.N scope) := by rw [h.N, h.sc]; exact blkOk_by hb
  refine ⟨ok, fun s H C cl fp => ?_, fun s H C cl fp => ?_, fun s H C cl fp => ?_⟩
  · exact tg_ok (h.blk ok.kind) tg g e2
  · exact ifs_ok ht (h.blk ok.kind) e3
  · exact hf (h.blk ok.kind) e4
theorem lr_ok (hf : SndE f) (h : Sit X W k c Γ) {x : Str} {es : List Expr} {ks : List Keyword} {r : E} {p pos : Pos} (hi : isLR x es ks = true) (e : compLR (f c) c es = some r) : PE X (.Call (.Name x p) es ks pos) (TM X W (wp Γ r)) := by
  unfold isLR at hi
  unfold compLR at e
  simp only [Bool.and_eq_true, decide_eq_true_eq] at hi
  obtain ⟨⟨hx, hk⟩, hi⟩ := hi
  have hk' : ks = [] := List.isEmpty_iff.mp hk
  subst hx hk'
  split at e
  · rename_i hg
    have hl := h.hg hg
    have m1 : X.mg "list" = none := h.bt _ (by decide)
    have m2 : X.mg "range" = none := h.bt _ (by decide)
    split at e
    · rename_i y p2 as pos2
      simp only [Bool.and_eq_true, Bool.or_eq_true, decide_eq_true_eq] at hi
      rcases hi with hi | hi
      rotate_left
      · obtain ⟨hy, hn⟩ := hi
        subst hy
        rw [if_neg (by decide)] at e
        split at e
        · rename_i hz
          have hr := h.hg hz
          simp only [Option.map_eq_some_iff] at e
          obtain ⟨a, e1, e2⟩ := e
          subst e2
          obtain ⟨h1, h2, h3, h4⟩ := es_ok hf h e1
          match as, hn, h1, h2, h3, h4 with
          | [a1, a2], _, h1, h2, h3, h4 =>
            exact se_lzip (p := p) (p2 := p2) (pos := pos) (pos2 := pos2) h.cd hl.1 m1 hr.1 (h.bt _ (by decide)) h1 (star_no (h4 a1 (by simp))) (back_no fun z hz => h3 z (by rw [star_no (h4 a1 (by simp))]; exact List.mem_cons_of_mem _ hz))
        · cases e
      obtain ⟨hy, hn⟩ := hi
      subst hy
      rw [if_pos rfl] at e
      split at e
      rotate_left
      · cases e
      rename_i hrr
      have hr := h.hg hrr
      simp only [Option.map_eq_some_iff] at e
      obtain ⟨a, e1, e2⟩ := e
      subst e2
      obtain ⟨h1, h2, h3, h4⟩ := es_ok hf h e1
      match as, hn, h1, h2, h4 with
      | [a1], _, h1, h2, h4 =>
        have := se_lrng1 (p := p) (p2 := p2) (pos := pos) (pos2 := pos2) h.cd hl.1 m1 hr.1 m2 h1 (star_no (h4 a1 (by simp)))
        rw [show (1 : Nat) = a.len from h2] at this
        exact this
      | [a1, a2], _, h1, h2, h4 =>
        have s2 : starEach [a2] X.env = [(false, eval a2 X.env)] := star_no (h4 a2 (by simp))
        have := se_lrng2 (p := p) (p2 := p2) (pos := pos) (pos2 := pos2) h.cd hl.1 m1 hr.1 m2 h1 (by rw [star_no (h4 a1 (by simp)), s2]) s2
        rw [show (2 : Nat) = a.len from h2] at this
        exact this
      | [], hn, _, _, _ => simp at hn
      | _ :: _ :: _ :: _, hn, _, _, _ => simp at hn
    · cases e
  · cases e
theorem ss_ok (hf : SndE f) (h : Sit X W k c Γ) {x : Str} {es : List Expr} {ks : List Keyword} {r : E} {p pos : Pos} (hi : isSS x es ks = true) (e : compSS (f c) c es = some r) : PE X (.Call (.Name x p) es ks pos) (TM X W (wp Γ r)) := by
  unfold isSS at hi
  unfold compSS at e
  simp only [Bool.and_eq_true, decide_eq_true_eq] at hi
  obtain ⟨⟨hx, hk⟩, hi⟩ := hi
  have hk' : ks = [] := List.isEmpty_iff.mp hk
  subst hx hk'
  split at e
  · rename_i hg
    have hl := h.hg hg
    split at e
    · rename_i y p2 as pos2
      simp only [Bool.and_eq_true, decide_eq_true_eq] at hi
      obtain ⟨hy, hn⟩ := hi
      subst hy
      split at e
      · rename_i hz
        have hr := h.hg hz
        simp only [Option.map_eq_some_iff] at e
        obtain ⟨a, e1, e2⟩ := e
        subst e2
        obtain ⟨h1, h2, h3, h4⟩ := es_ok hf h e1
        match as, hn, h1, h4 with
        | [a1], _, h1, h4 =>
          exact se_sset (p := p) (p2 := p2) (pos := pos) (pos2 := pos2) h.cd hl.1 (h.bt _ (by decide)) hr.1 (h.bt _ (by decide)) h1 (star_no (h4 a1 (by simp)))
      · cases e
    · cases e
  · cases e
theorem comp0_ok (hf : SndE f) (ht : SndT t) (h : Sit X W k c Γ) {e : Expr} {r : E} (q : comp0 f t c e = some r) : PE X e (TM X W (wp Γ r)) := by
  have mp : ∀ {α β : Type} {o : Option α} {g : α → β} {r : β}, o.map g = some r → ∃ a, o = some a ∧ r = g a := fun {α β o g r} e => by
    simp only [Option.map_eq_some_iff] at e
    obtain ⟨x, e1, e2⟩ := e
    exact ⟨x, e1, e2.symm⟩
  have bd : ∀ {α β : Type} {o : Option α} {g : α → Option β} {r : β}, o.bind g = some r → ∃ a, o = some a ∧ g a = some r := fun {α β o g r} e => by
    simpa only [Option.bind_eq_some_iff] using e
  unfold comp0 at q
  split at q
  · exact n_ok h q
  · obtain ⟨d, e1, rfl⟩ := mp q
    exact c_ok e1
  · obtain ⟨o, e0, q⟩ := bd q
    obtain ⟨x, e1, q⟩ := bd q
    obtain ⟨y, e2, q⟩ := bd q
    cases q
    rw [boOf_ok e0]
    exact se_bin o (hf h e1) (hf h e2)
  · obtain ⟨x, e1, rfl⟩ := mp q
    exact se_neg (hf h e1)
  · split at q
    · cases q
    · rename_i hl
      obtain ⟨x, e1, q⟩ := bd q
      obtain ⟨y, e2, q⟩ := bd q
      cases q
      exact se_cmp (by simpa using hl) (hf h e1) (cs_ok hf h e2)
  · obtain ⟨x, e1, rfl⟩ := mp q
    exact se_rev (hf h e1)
  · obtain ⟨x, e1, q⟩ := bd q
    obtain ⟨y, e2, q⟩ := bd q
    obtain ⟨z, e3, q⟩ := bd q
    cases q
    exact se_sl (hf h e1) (o_ok hf h e2) (o_ok hf h e3)
  · split at q
    · cases q
    · rename_i hl
      obtain ⟨x, e1, q⟩ := bd q
      obtain ⟨y, e2, q⟩ := bd q
      cases q
      exact se_ix h.cd.units (hf h e1) (hf h e2) (plain_ix hl)
  · obtain ⟨x, e1, rfl⟩ := mp q
    exact se_tup (es_ok hf h e1).1
  · obtain ⟨x, e1, rfl⟩ := mp q
    exact se_lst (es_ok hf h e1).1
  · split at q
    · rename_i hl
      cases q
      have h1 := List.isEmpty_iff.mp hl.1
      have h2 := List.isEmpty_iff.mp hl.2
      subst h1 h2
      exact se_dct0
    · split at q
      · rename_i hl
        obtain ⟨x, e1, rfl⟩ := mp q
        exact se_dct (ps_ok hf h e1) hl.1 (by intro z; rw [z] at hl; cases hl.2)
      · cases q
  · split at q
    · rename_i hi
      exact ss_ok hf h hi q
    · split at q
      · rename_i hi
        exact lr_ok hf h hi q
      · exact call_ok hf h q
  · rename_i o mnm ap es cp
    split at q
    · rename_i hl
      obtain ⟨m, e0, q⟩ := bd q
      obtain ⟨x, e1, q⟩ := bd q
      obtain ⟨y, e2, q⟩ := bd q
      cases q
      rw [mtOf_ok e0]
      obtain ⟨h1, h2, h3, h4⟩ := es_ok hf h e2
      have hb : attributeBase o (mtName m) X.env (eval o X.env) = eval o X.env := by
        have h3 := hl.2.2
        cases o <;> first | rfl | (cases h3)
      cases es with
      | nil => cases e2; exact se_mt0 m (hf h e1) hb hl.1
      | cons a0 es =>
        have ha0 := h4 a0 List.mem_cons_self
        refine se_mt m (hf h e1) h1 hb ?_ hl.1 (star_no ha0) (back_no fun z hz => h3 z (by rw [star_no ha0]; exact List.mem_cons_of_mem _ hz))
        have hall : (backTo cp (starEach (a0 :: es) X.env)).all (fun x => !x.1) = true := by
          have hn := back_no (pos := cp) h3
          rw [List.all_eq_not_any_not]
          simpa using hn
        rw [hall]
        have hlen := hl.2.1
        simp only [List.length_cons] at hlen
        simp [keywordEach, backToKw]
        omega
    · cases q
  · split at q
    · rename_i hb
      obtain ⟨i, e1, q⟩ := bd q
      obtain ⟨g, e2, q⟩ := bd q
      obtain ⟨p, e3, q⟩ := bd q
      obtain ⟨x, e4, q⟩ := bd q
      split at q
      · rename_i hin
        cases q
        obtain ⟨h1, hns⟩ := it_ok hf h e1
        obtain ⟨ok, p1, p2, p3⟩ := lc_parts hf ht h hb e2 e3 e4
        exact se_lc h.cd.calm h.ndX h1 ok hin p1 p2 p3 (fold_no hns)
      · cases q
    · cases q
  · cases q
/-- what neither and, or, not, a if b is: its test is its value's truth -/
def plainT : Expr → Bool
  | .BoolOp .. => false
  | .UnaryOp .Not _ _ => false
  | .IfExp .. => false
  | .Compare .. => false
  | _ => true
theorem comp0T_ok (hf : SndE f) (ht : SndT t) (h : Sit X W k c Γ) {e : Expr} {r : E} (q : comp0 f t c e = some r) : PT X e (TMT X W (wp Γ r)) := by
  by_cases hp : plainT e = true
  · refine st_plain (comp0_ok hf ht h q) ?_
    cases e <;> first | exact fun _ => rfl | (cases hp) | skip
    rename_i op _ _
    cases op <;> first | exact fun _ => rfl | (cases hp)
  · have bd : ∀ {α β : Type} {o : Option α} {g : α → Option β} {r : β}, o.bind g = some r → ∃ a, o = some a ∧ g a = some r := fun {α β o g r} e => by
      simpa only [Option.bind_eq_some_iff] using e
    cases e <;> first | exact absurd rfl hp | skip
    · simp [comp0] at q
    · rename_i op a pos
      cases op <;> first | exact absurd rfl hp | (simp [comp0] at q)
    · simp [comp0] at q
    · simp only [comp0] at q
      split at q
      · cases q
      · rename_i hl
        obtain ⟨x, e1, q⟩ := bd q
        obtain ⟨y, e2, q⟩ := bd q
        cases q
        exact st_cmp (by simpa using hl) (hf h e1) (cs_ok hf h e2)
theorem comp1_ok (hf : SndE f) (ht : SndT t) (h : Sit X W k c Γ) {e : Expr} {r : E} (q : comp1 f t c e = some r) : PE X e (TM X W (wp Γ r)) := by
  have mp : ∀ {α β : Type} {o : Option α} {g : α → β} {r : β}, o.map g = some r → ∃ a, o = some a ∧ r = g a := fun {α β o g r} e => by
    simp only [Option.map_eq_some_iff] at e
    obtain ⟨x, e1, e2⟩ := e
    exact ⟨x, e1, e2.symm⟩
  have bd : ∀ {α β : Type} {o : Option α} {g : α → Option β} {r : β}, o.bind g = some r → ∃ a, o = some a ∧ g a = some r := fun {α β o g r} e => by
    simpa only [Option.bind_eq_some_iff] using e
  unfold comp1 at q
  split at q
  · exact bool_ok hf h q
  · obtain ⟨x, e1, rfl⟩ := mp q
    exact se_not (hf h e1)
  · obtain ⟨z, e1, q⟩ := bd q
    obtain ⟨x, e2, q⟩ := bd q
    obtain ⟨y, e3, q⟩ := bd q
    cases q
    exact se_ite (ht h e1) (hf h e2) (hf h e3)
  · exact comp0_ok hf ht h q
theorem compT1_ok (hf : SndE f) (ht : SndT t) (h : Sit X W k c Γ) {e : Expr} {r : E} (q : compT1 f t c e = some r) : PT X e (TMT X W (wp Γ r)) := by
  have mp : ∀ {α β : Type} {o : Option α} {g : α → β} {r : β}, o.map g = some r → ∃ a, o = some a ∧ r = g a := fun {α β o g r} e => by
    simp only [Option.map_eq_some_iff] at e
    obtain ⟨x, e1, e2⟩ := e
    exact ⟨x, e1, e2.symm⟩
  have bd : ∀ {α β : Type} {o : Option α} {g : α → Option β} {r : β}, o.bind g = some r → ∃ a, o = some a ∧ g a = some r := fun {α β o g r} e => by
    simpa only [Option.bind_eq_some_iff] using e
  unfold compT1 at q
  split at q
  · exact (boolT_ok ht h q).pt
  · obtain ⟨x, e1, rfl⟩ := mp q
    exact st_not (ht h e1)
  · obtain ⟨z, e1, q⟩ := bd q
    obtain ⟨x, e2, q⟩ := bd q
    obtain ⟨y, e3, q⟩ := bd q
    cases q
    exact st_ite (ht h e1) (ht h e2) (ht h e3)
  · exact comp0T_ok hf ht h q
theorem comp_ok : ∀ n : Nat, SndE (compE n) ∧ SndT (compT n)
  | 0 => ⟨fun h e r q => by simp [compE] at q, fun h e r q => by simp [compT] at q⟩
  | n + 1 => by
    obtain ⟨h1, h2⟩ := comp_ok n
    refine ⟨fun h e r q => ?_, fun h e r q => ?_⟩
    · simp only [compE, Option.map_eq_some_iff] at q
      obtain ⟨x, e1, e2⟩ := q
      have p := comp1_ok h1 h2 h e1
      split at e2
      · subst e2; exact se_mk p
      · subst e2; exact p
    · exact compT1_ok h1 h2 h (by simpa only [compT] using q)
end
end Lay

set_option Elab.async false
set_option maxRecDepth 100000
set_option linter.all false
/-! Lay, part P: the compiler is right, statements. -/
namespace Lay
open PySem L2 RZ PyProof.Rows

def swB (sc : Scope) (e tg : Expr) : Bool :=
  match e with
  | .ListComp _ _ s p => (match tg with
    | .Name t tp => decide (sc.names.lookup t = some .local) && tp.line == p.line && !(s.names.any fun q => q.1 == t && (q.2 == .local || q.2 == .cell))
    | _ => false)
  | _ => false
structure SitS (X : Cx) (W : WX) (k : Nat) (c : CC) (Γ : Gam) : Prop extends Sit X W k c Γ where
  pass : PassesOwn (model X.prog X.w) X.A X.env X.xe
  stk : X.stack = X.env :: X.outer
  frm : X.env.frame = some X.env.locals
  ex : Exs X.prog X.K X.mg
  xp : ∀ x ∈ c.xs, X.mg x ≠ none
  r1 : Room 1 X.A
section
variable {X : Cx} {W : WX} {k : Nat} {c : CC} {Γ : Gam}
theorem sw_no {e tg : Expr} {l : Nat} {env : Env} (hk : env.scope.kind = .function) (h : swB env.scope e tg = false) (h2 : ∀ a b s p, e ≠ .SetComp a b s p) (h3 : ∀ a b d s p, e ≠ .DictComp a b d s p) : swapsWith e (some tg) l env = pure false := by
  cases e <;> first | rfl | exact absurd rfl (h2 _ _ _ _) | exact absurd rfl (h3 _ _ _ _ _) | skip
  rename_i el gs s p
  cases tg <;> first | rfl | skip
  rename_i t tp
  have hb : env.blockKind = .function := by unfold Env.blockKind; rw [hk]; rfl
  unfold swapsWith
  simp only [swB] at h
  simp only [hb, Env.kindOf, Expr.pos]
  have e1 : ((env.scope.names.lookup t == some NameKind.local) && tp.line == p.line && !(s.names.any fun x => x.1 == t && (x.2 == NameKind.local || x.2 == NameKind.cell))) = false := by
    rw [← h]
    congr 2
    by_cases q : env.scope.names.lookup t = some .local
    · simp [q]
    · have : (env.scope.names.lookup t == some NameKind.local) = false := by simpa using q
      simp [q, this]
  show pure (ScopeKind.function == ScopeKind.function && (env.scope.names.lookup t == some NameKind.local) && tp.line == p.line && !(s.names.any fun x => x.1 == t && (x.2 == NameKind.local || x.2 == NameKind.cell))) = _
  rw [show (ScopeKind.function == ScopeKind.function) = true from rfl, Bool.true_and, e1]
theorem sw_yes {e tg : Expr} {l : Nat} {env : Env} (hk : env.scope.kind = .function) (h : swB env.scope e tg = true) : ∃ el gs s p t tp, e = .ListComp el gs s p ∧ tg = .Name t tp ∧ env.scope.names.lookup t = some .local ∧ swapsWith e (some tg) l env = pure true := by
  cases e <;> first | (cases h) | skip
  rename_i el gs s p
  cases tg <;> first | (cases h) | skip
  rename_i t tp
  simp only [swB, Bool.and_eq_true, decide_eq_true_eq] at h
  refine ⟨el, gs, s, p, t, tp, rfl, rfl, h.1.1, ?_⟩
  have hb : env.blockKind = .function := by unfold Env.blockKind; rw [hk]; rfl
  unfold swapsWith
  simp only [hb, Env.kindOf, Expr.pos]
  show pure (ScopeKind.function == ScopeKind.function && (env.scope.names.lookup t == some NameKind.local) && tp.line == p.line && !(s.names.any fun x => x.1 == t && (x.2 == NameKind.local || x.2 == NameKind.cell))) = _
  rw [h.1.1, h.1.2, h.2]
  rfl
theorem ss_none {e tg : Expr} {env : Env} (h : isTupE tg ≠ true ∨ isTupE e ≠ true) (hl : ∀ a p, tg ≠ .List a p) : swappedStores [tg] e env = pure none := by
  cases tg <;> first | rfl | exact absurd rfl (hl _ _) | skip
  cases e <;> first | rfl | (rcases h with h | h <;> exact absurd rfl h)
theorem ss_noswap {ts es : List Expr} {kt ke : Nat} {p p2 : Pos} {env : Env} (h : (noSwap env.scope ts || es.all (foldedForSure 8)) = true) : swappedStores [.Tuple ts kt p] (.Tuple es ke p2) env = pure none := by
  unfold swappedStores
  dsimp only
  rcases Bool.or_eq_true _ _ ▸ h with h | h
  · unfold noSwap at h
    have h' := of_decide_eq_true h
    split
    · rfl
    · split
      · rfl
      · refine (if_pos ?_).trans rfl
        rw [Bool.or_eq_true]
        refine .inl ?_
        rw [bne_iff_ne]
        exact h'
  · split
    · rfl
    · split
      · rfl
      · split
        · rfl
        · first | rfl | (rw [if_pos h]; rfl)
theorem compE_noset {n : Nat} {e : Expr} {r : E} (h : compE n c e = some r) : (∀ a b s p, e ≠ .SetComp a b s p) ∧ (∀ a b d s p, e ≠ .DictComp a b d s p) := by
  cases n with
  | zero => simp [compE] at h
  | succ n => refine ⟨fun a b s p z => ?_, fun a b d s p z => ?_⟩ <;> subst z <;> simp [compE, comp1, comp0] at h
/-- name = value, whatever way -/
theorem name_ok (h : SitS X W k c Γ) {n : Nat} {x : Str} {p pos : Pos} {e : Expr} {g : Tg} {r : E} (h1 : compTg c (.Name x p) = some g) (h2 : compE n c e = some r) : PS X (.Assign [.Name x p] e pos) (TMS X W (mAsg g (wp Γ r))) := by
  have hk : X.env.scope.kind = .function := by rw [h.sc]; exact h.kind
  obtain ⟨n1, n2⟩ := compE_noset h2
  cases hb : swB X.env.scope e (.Name x p) with
  | false =>
    exact ss_asg ((comp_ok n).1 h.toSit h2) (tg_ok h.toSit _ _ h1) (sw_no (l := pos.line) hk hb n1 n2) (ss_none (.inl (by simp [isTupE])) (by simp)) rfl
  | true =>
    obtain ⟨el, gs, s, p', t, tp, rfl, e2, hloc, hsw⟩ := sw_yes (l := pos.line) hk hb
    cases e2
    -- the comprehension's parts
    cases n with
    | zero => simp [compE] at h2
    | succ n =>
      simp only [compE, Option.map_eq_some_iff] at h2
      obtain ⟨r0, q, er⟩ := h2
      have hr : ∀ σc H Qc, TM X W (wp Γ r) σc H Qc → TM X W (wp Γ r0) σc H Qc := by
        split at er
        · subst er; exact mk_sub
        · subst er; exact fun _ _ _ z => z
      clear er
      have bd : ∀ {α β : Type} {o : Option α} {g : α → Option β} {r : β}, o.bind g = some r → ∃ a, o = some a ∧ g a = some r := fun {α β o g r} e => by
        simpa only [Option.bind_eq_some_iff] using e
      obtain ⟨hf, ht⟩ := comp_ok n
      simp only [comp1] at q
      unfold comp0 at q
      split at q
      all_goals try (rename_i hz; cases hz)
      all_goals first | (cases q; done) | skip
      rename_i tg it ifs
      split at q
      · rename_i hb'
        obtain ⟨i, e1, q⟩ := bd q
        obtain ⟨g', e2, q⟩ := bd q
        obtain ⟨o, e3, q⟩ := bd q
        obtain ⟨y, e4, q⟩ := bd q
        split at q
        · rename_i hin
          cases q
          obtain ⟨i1, hns⟩ := it_ok hf h.toSit e1
          obtain ⟨ok, p1, p2, p3⟩ := lc_parts hf ht h.toSit hb' e2 e3 e4
          simp only [compTg] at h1
          split at h1
          · simp only [Option.map_eq_some_iff] at h1
            obtain ⟨j, e5, e6⟩ := h1
            cases e6
            have P := ps_setLc (py := p) (pos := p') (spos := pos) h.cd.calm h.ndX (h.hN e5) hloc hsw i1 ok p1 p2 p3 (fold_no hns)
            exact P.sub (gname_sub fun σc H Qc z => lc_sub hin _ _ _ (hr _ _ _ z))
          · cases h1
        · cases q
      · cases q
theorem ix_inj : ∀ {N : List Str} {x y : Str} {i j : Nat}, ixOf N x = some i → ixOf N y = some j → i ≠ j → x ≠ y := by
  intro N x y i j h1 h2 hn e
  subst e
  rw [h1] at h2
  cases h2
  exact hn rfl
theorem ss_two {x y : Str} {px py pt pt2 : Pos} {kt k2 : Nat} {a b : Expr} {env : Env} (hk : env.scope.kind = .function) (hx : env.scope.names.lookup x = some .local) (hy : env.scope.names.lookup y = some .local) (hl : (py.line == px.line) = true) (hne : x ≠ y)
    (hs : [a, b].any isStar = false) (hf : [a, b].all (foldedForSure 8) = false) (hc : [a, b].all (constantsAlone 8) = false) : swappedStores [.Tuple [.Name x px, .Name y py] kt pt] (.Tuple [a, b] k2 pt2) env = pure (some [x, y]) := by
  have hb : env.blockKind = .function := by unfold Env.blockKind; rw [hk]; rfl
  have hst : (fun z : Expr => match z with | .Starred .. => true | _ => false) = isStar := by funext z; cases z <;> rfl
  have hs' : ([a, b].any fun | .Starred .. => true | _ => false) = false := by
    show [a, b].any (fun z : Expr => match z with | .Starred .. => true | _ => false) = false
    rw [hst]; exact hs
  have e1 : (env.kindOf x == some NameKind.local) = true := by show (env.scope.names.lookup x == _) = true; rw [hx]; rfl
  have e2 : (env.kindOf y == some NameKind.local) = true := by show (env.scope.names.lookup y == _) = true; rw [hy]; rfl
  have ee : ([x, y].eraseDups).length = 2 := by
    have hb : (y == x) = false := by simpa using fun z => hne z.symm
    rw [List.eraseDups_cons]
    simp [hb, List.eraseDups_cons]
  unfold swappedStores
  simp only [hb, hs', hf, hc, e1, e2, hl, Expr.pos, List.filterMap_cons, List.filterMap_nil, List.head?_cons, Option.map_some, Option.getD_some, beq_self_eq_true, Bool.and_self, if_true, ee, List.length_cons, List.length_nil]
  rw [if_neg (by decide)]
  refine (if_neg ?_).trans ?_
  · intro z; exact absurd (hs'.symm.trans z) (by decide)
  · rfl
theorem ss_three {x y z : Str} {px py pz pt pt2 : Pos} {kt k2 : Nat} {a b c : Expr} {env : Env} (hk : env.scope.kind = .function) (hx : env.scope.names.lookup x = some .local) (hy : env.scope.names.lookup y = some .local) (hz : env.scope.names.lookup z = some .local) (hl : (py.line == px.line) = true) (hl2 : (pz.line == px.line) = true) (hne : x ≠ y) (hn2 : x ≠ z) (hn3 : y ≠ z)
    (hs : [a, b, c].any isStar = false) (hf : [a, b, c].all (foldedForSure 8) = false) (hc : [a, b, c].all (constantsAlone 8) = false) : swappedStores [.Tuple [.Name x px, .Name y py, .Name z pz] kt pt] (.Tuple [a, b, c] k2 pt2) env = pure (some [x, y, z]) := by
  have hb : env.blockKind = .function := by unfold Env.blockKind; rw [hk]; rfl
  have hst : (fun z : Expr => match z with | .Starred .. => true | _ => false) = isStar := by funext z; cases z <;> rfl
  have hs' : ([a, b, c].any fun | .Starred .. => true | _ => false) = false := by
    show [a, b, c].any (fun z : Expr => match z with | .Starred .. => true | _ => false) = false
    rw [hst]; exact hs
  have e1 : (env.kindOf x == some NameKind.local) = true := by show (env.scope.names.lookup x == _) = true; rw [hx]; rfl
  have e2 : (env.kindOf y == some NameKind.local) = true := by show (env.scope.names.lookup y == _) = true; rw [hy]; rfl
  have e3 : (env.kindOf z == some NameKind.local) = true := by show (env.scope.names.lookup z == _) = true; rw [hz]; rfl
  have ee : ([x, y, z].eraseDups).length = 3 := by
    have h1 : (y == x) = false := by simpa using fun q => hne q.symm
    have h2 : (z == x) = false := by simpa using fun q => hn2 q.symm
    have h3 : (z == y) = false := by simpa using fun q => hn3 q.symm
    rw [List.eraseDups_cons]
    simp [h1, h2, h3, List.eraseDups_cons]
  unfold swappedStores
  simp only [hb, hs', hf, hc, e1, e2, e3, hl, hl2, Expr.pos, List.filterMap_cons, List.filterMap_nil, List.head?_cons, Option.map_some, Option.getD_some, beq_self_eq_true, Bool.and_self, if_true, ee, List.length_cons, List.length_nil]
  rw [if_neg (by decide)]
  refine (if_neg ?_).trans ?_
  · intro z; exact absurd (hs'.symm.trans z) (by decide)
  · rfl
end
end Lay

set_option Elab.async false
set_option maxRecDepth 100000
set_option linter.all false
/-! Lay, part Px: the compiler is right, raise and try. -/
namespace Lay
open PySem L2 RZ PyProof.Rows
section
variable {X : Cx} {W : WX} {k : Nat} {c : CC} {Γ : Gam}
theorem SitS.tr (h : SitS X W k c Γ) {W' : WX} {pn : List (Addr × Obj)} {xe : Value → Shared → Prop} (tk : Takes (X.tr pn xe) W') (ps : PassesOwn (model X.prog X.w) X.A X.env xe) : SitS (X.tr pn xe) W' k c Γ :=
  { N := h.N, nd := h.nd, sc := h.sc, kind := h.kind, fn := h.fn, cd := ⟨h.cd.calm, h.cd.units, h.cd.guards, h.cd.sys⟩, room := h.room, tk := tk, bt := h.bt, cal := fun x g e => ⟨(h.cal x g e).ex⟩, gl := h.gl, pass := ps, stk := h.stk, frm := h.frm, ex := h.ex, xp := h.xp, r1 := h.r1 }
theorem raise_ok (h : SitS X W k c Γ) {n : Nat} {x : Str} {es : List Expr} {p pos pos2 : Pos} {s : S} (q : compRaise n c x es = some s) : PS X (.Raise (some (.Call (.Name x p) es [] pos)) none pos2) (TMS X W (ws Γ s)) := by
  unfold compRaise at q
  split at q
  · rename_i hg
    obtain ⟨g1, g2⟩ := h.hg hg.1
    split at q
    · rename_i hx
      cases q
      refine (ss_raise0 h.cd.calm h.ex h.r1 h.tk hx (h.xp x hg.2) g1 g2).sub fun Z σc H z => ?_
      obtain ⟨ρ, M, σ, P, r, s, z, k⟩ := z
      have z' : ([] : List D) = [] ∧ P.xe ⟨x, []⟩ σ M := z
      exact ⟨ρ, M, σ, P, r, s, z'.2, k⟩
    · rename_i f e hx
      simp only [Option.map_eq_some_iff] at q
      obtain ⟨a, e1, rfl⟩ := q
      obtain ⟨h1, h2, h3, h4⟩ := es_ok (comp_ok n).1 h.toSit e1
      exact ss_raise1 h.cd.calm h.ex h.r1 h.tk hx (h.xp x hg.2) g1 g2 h1 (star_no (h4 e List.mem_cons_self))
    · cases q
  · cases q
section
variable {a : Addr} {oe : Obj} {cls : Value} {dd : Option Addr} {pn : List (Addr × Obj)}
theorem se_ok (h : SitS X W k c Γ) {y : Str} {sl : Option Nat} (hz : Zc cls dd oe) (hf : ∃ vs, oe.data = .fields vs) : ∀ j : Nat, (∀ {e : Expr} {r : SE}, compSE j c sl y e = some r → PE (X.suite a ((a, oe) :: pn)) e (TMX X a cls dd y sl (wpS r sl))) ∧
    (∀ {es : List Expr} {r : SEs}, compSEs j c sl y es = some r → PA (X.suite a ((a, oe) :: pn)) es (TMXs X a cls dd y sl (wpSs r sl)))
  | 0 => ⟨fun q => by simp [compSE] at q, fun q => by simp [compSEs] at q⟩
  | j + 1 => by
    obtain ⟨i1, i2⟩ := se_ok h hz hf j
    have bd : ∀ {α β : Type} {o : Option α} {g : α → Option β} {r : β}, o.bind g = some r → ∃ a, o = some a ∧ g a = some r := fun {α β o g r} e => by
      simpa only [Option.bind_eq_some_iff] using e
    have mp : ∀ {α β : Type} {o : Option α} {g : α → β} {r : β}, o.map g = some r → ∃ a, o = some a ∧ r = g a := fun {α β o g r} e => by
      simp only [Option.map_eq_some_iff] at e
      obtain ⟨x, e1, e2⟩ := e
      exact ⟨x, e1, e2.symm⟩
    have var : ∀ {nm : Str} {i : Nat} {p : Pos}, ixOf c.N nm = some i → c.sc.names.lookup nm = some .local → ¬(nm = "__debug__" ∨ nm = "__classdict__") → PE (X.suite a ((a, oe) :: pn)) (.Name nm p) (tVar i) := fun {nm i p} e1 e2 e3 => by
      simp only [not_or] at e3
      exact pe_var (X := X.suite a ((a, oe) :: pn)) (h.hN e1) (by show Vis X.env.scope nm; rw [h.sc]; exact .inl e2) (by simpa using e3.1) (by simpa using e3.2)
    refine ⟨fun {e r} q => ?_, fun {es r} q => ?_⟩
    · unfold compSE at q
      split at q
      · obtain ⟨d, e1, rfl⟩ := mp q
        rename_i v _ _
        cases v <;> simp [compC] at e1 <;> subst e1
        · exact su_c pe_non fun _ _ => .non
        · exact su_c pe_bl fun _ _ => .bl _
        · exact su_c pe_int fun _ _ => .int _
        · exact su_c pe_str fun _ _ => .str _
      · obtain ⟨i, e1, q⟩ := bd q
        split at q
        · rename_i hc
          cases q
          exact su_fld h.ex hc.2.2.1 hz hf (var e1 hc.2.1 hc.2.2.2)
        · cases q
      · split at q
        · rename_i hg
          subst hg
          split at q
          · obtain ⟨i, e1, q⟩ := bd q
            split at q
            · rename_i hc
              obtain ⟨c1, c2, c3, c4, c5, c6, c7, c8⟩ := hc
              cases q
              obtain ⟨g1, _⟩ := h.hg c4
              obtain ⟨g2, g3⟩ := h.hg c5
              exact su_isx h.ex c7 hz hf g1 (h.bt _ (by decide)) c6 g2 (h.xp _ c8) g3 (var e1 c2 c3)
            · cases q
          · cases q
        · split at q
          · rename_i hg
            subst hg
            split at q
            · split at q
              · cases q
              · rename_i hc
                simp only [not_or] at hc
                obtain ⟨x, e1, rfl⟩ := mp q
                have hgl : isGl c "repr" = true := by cases z : isGl c "repr" <;> first | rfl | exact absurd z hc.2
                exact su_rep h.cd (h.hg hgl).1 (h.bt _ (by decide)) (i1 e1) (star_no hc.1)
            · cases q
          · cases q
      · obtain ⟨x, e1, rfl⟩ := mp q
        exact su_lst (i2 e1)
      · obtain ⟨x, e1, q⟩ := bd q
        obtain ⟨u, e2, q⟩ := bd q
        obtain ⟨v, e3, q⟩ := bd q
        cases q
        exact su_ite (i1 e1) (fun _ => rfl) (i1 e2) (i1 e3)
      · cases q
    · unfold compSEs at q
      split at q
      · cases q; exact su_nil
      · split at q
        · cases q
        · rename_i hs
          obtain ⟨x, e1, q⟩ := bd q
          obtain ⟨u, e2, q⟩ := bd q
          cases q
          exact su_cons (i1 e1) (i2 e2) (star_no hs)
end
theorem hs_ok (h : SitS X W k c Γ) {n : Nat} : ∀ {hds : List ExceptHandler} {hs : Hs}, compHs n c hds = some hs → ∃ l, ClOk X hds l ∧ ∀ {ρ : Rg} {M : Mem} {H : Hp} {σ : Sl} {σc : L2.St} {P : Po} {Z : Ends} {x : Xn} {cls : Value} {dd : Option Addr},
    Rel X.K ρ M H → RS X.K ρ H σ σc → KP X W ρ H P Z → RX X.mg X.K ρ H x cls dd → wH hs P x σ M → wCl X.K W Z l cls dd σc H
  | [], hs, q => by
    cases q
    exact ⟨[], .nil, fun {ρ M H σ σc P Z x cls dd} r s kp rx w => kp.xe ρ M H σ σc x cls dd (Ext.refl _ _) r s rx w⟩
  | hd :: hds, hs, q => by
    have bd : ∀ {α β : Type} {o : Option α} {g : α → Option β} {r : β}, o.bind g = some r → ∃ a, o = some a ∧ g a = some r := fun {α β o g r} e => by
      simpa only [Option.bind_eq_some_iff] using e
    unfold compHs at q
    split at q
    · cases ‹_ = []›
    rotate_left
    · cases q
    rename_i y np nm e p1 p2 hds2 heq
    cases heq
    split at q
    rotate_left
    · cases q
    rename_i hc
    obtain ⟨c1, c2, c3⟩ := hc
    obtain ⟨g1, g2⟩ := h.hg c3
    rcases h.ex.tg y c1 with z | ⟨T, hT, tT⟩
    · exact absurd z (h.xp y c2)
    have hnm : Names X y (.ref T) := ⟨g1, g2, .inl hT⟩
    have test : ∀ {ρ : Rg} {H : Hp} {x : Xn} {cls : Value} {dd : Option Addr}, RX X.mg X.K ρ H x cls dd → xNm x.cls = true → PySem.W.exmOne X.K cls (.ref T) = some (subX x.cls y) := fun {ρ H x cls dd} rx hx => by
      obtain ⟨C, e1, e2, _⟩ := rx
      subst e2
      exact PySem.W.exm_ref tT.b tT.d tT.t (h.ex.sub x.cls y C T hx c1 e1 hT)
    have suite : ∀ {sl : Option Nat} {r : SE}, compSE n c sl y e = some r → ∀ (a : Addr) (oe : Obj) (cls : Value) (d : Option Addr) (pn : List (Addr × Obj)), Zc cls d oe → (∃ vs, oe.data = .fields vs) → PSs (X.suite a ((a, oe) :: pn)) [.Return (some e) p1] (fun D σ H => TMX X a cls d y sl (wpS r sl) σ H D.rt) :=
      fun {sl r} e1 a oe cls d pn hz hf => pss_one (ps_ret ((se_ok h hz hf n).1 e1))
    have step : ∀ {sl : Option Nat} {a1 : SE} {r : Hs} {l : List Cl}, (∀ {ρ : Rg} {M : Mem} {H : Hp} {σ : Sl} {σc : L2.St} {P : Po} {Z : Ends} {x : Xn} {cls : Value} {dd : Option Addr},
        Rel X.K ρ M H → RS X.K ρ H σ σc → KP X W ρ H P Z → RX X.mg X.K ρ H x cls dd → wH r P x σ M → wCl X.K W Z l cls dd σc H) → ∀ {ρ : Rg} {M : Mem} {H : Hp} {σ : Sl} {σc : L2.St} {P : Po} {Z : Ends} {x : Xn} {cls : Value} {dd : Option Addr},
        Rel X.K ρ M H → RS X.K ρ H σ σc → KP X W ρ H P Z → RX X.mg X.K ρ H x cls dd → wH (.cons y sl a1 r) P x σ M → wCl X.K W Z ((.ref T, sl, fun a cls d D σ H => TMX X a cls d y sl (wpS a1 sl) σ H D.rt) :: l) cls dd σc H := by
      intro sl a1 r l ih ρ M H σ σc P Z x cls dd rel s kp rx w
      obtain ⟨hx, hi, w⟩ := w
      refine ⟨_, test rx hx, fun hb a _ => ?_, fun hb => ?_⟩
      · rw [if_pos hb] at w
        refine ⟨ρ, M, x, fun d => P.rt d M, rel, rx, hx, hb, fun i hsl => ?_, w, fun ρ' H' d v e1 r1 rr f q => ?_⟩
        · subst hsl
          exact List.getElem?_set_self (by rw [← s.1]; exact hi i rfl)
        · have : (outE sl Z).rt = Z.rt := by cases sl <;> rfl
          rw [this]
          exact kp.rt ρ' M H' d v e1 r1 rr f q
      · rw [if_neg (by rw [hb]; exact Bool.false_ne_true)] at w
        exact ih rel s kp rx w
    split at q
    · obtain ⟨a1, e1, q⟩ := bd q
      obtain ⟨r, e2, q⟩ := bd q
      cases q
      obtain ⟨l, h1, h2⟩ := hs_ok h e2
      exact ⟨_, .plain hnm (suite e1) h1, step h2⟩
    · rename_i x
      split at q
      · rename_i hl
        obtain ⟨i, e0, q⟩ := bd q
        obtain ⟨a1, e1, q⟩ := bd q
        obtain ⟨r, e2, q⟩ := bd q
        cases q
        obtain ⟨l, h1, h2⟩ := hs_ok h e2
        exact ⟨_, .named hnm (h.hN e0) (by show X.env.scope.names.lookup x = _; rw [h.sc]; exact hl) (suite e1) h1, step h2⟩
      · cases q
theorem try_ok (h : SitS X W k c Γ) {n : Nat} {body : List Stmt} {b : Ss} {hd : ExceptHandler} {hds : List ExceptHandler} {hs : Hs} {pos : Pos}
    (hb : ∀ (W' : WX) (pn : List (Addr × Obj)) (xe : Value → Shared → Prop), Takes (X.tr pn xe) W' → PassesOwn (model X.prog X.w) X.A X.env xe → PSs (X.tr pn xe) body (TMS (X.tr pn xe) W' (wss Γ b))) (q : compHs n c (hd :: hds) = some hs) :
    PS X (.Try body (hd :: hds) [] [] pos) (TMS X W (ws Γ (.tryx b hs))) := by
  obtain ⟨l, h1, h2⟩ := hs_ok h q
  refine (ps_tryAll (tb := fun W' => TMS X W' (wss Γ b)) h.stk h.frm h.ndX h.tk (fun W' pn xe tk ps => (hb W' pn xe tk ps).sub fun Z σc H ⟨ρ, M, σ, P, r, s, q, k⟩ => ⟨ρ, M, σ, P, r, s, q, ⟨k.nx, k.bk, k.ct, k.rt, k.xe⟩⟩) h1).sub fun Z σc H z => ?_
  obtain ⟨ρ, M, σ, P, r, s, z, kp⟩ := z
  refine ⟨ρ, M, σ, { P with xe := wH hs P }, r, s, z, ⟨kp.nx, kp.bk, kp.ct, kp.rt, fun ρ' M' H' σ' σc' x cls dd e1 r1 s1 rx w => ?_⟩⟩
  exact h2 r1 s1 (kp.later e1) rx w
end
end Lay

set_option Elab.async false
set_option maxRecDepth 100000
set_option linter.all false
/-! Lay, part Q: the compiler is right, bodies. -/
namespace Lay
open PySem L2 RZ PyProof.Rows

section
variable {X : Cx} {W : WX} {k : Nat} {c : CC} {Γ : Gam}
theorem par_get {ln : Nat} : ∀ {ts : List Expr} {is : List Nat}, parTg c ln ts = some is → ∀ e ∈ ts, ∃ x p i, e = .Name x p ∧ c.sc.names.lookup x = some .local ∧ (p.line == ln) = true ∧ ixOf c.N x = some i
  | [], is, h, e, he => nomatch he
  | t :: ts, is, h, e, he => by
    cases t <;> first | (simp [parTg] at h; done) | skip
    rename_i x p
    simp only [parTg] at h
    split at h
    · rename_i hl
      simp only [Option.bind_eq_some_iff, Option.map_eq_some_iff] at h
      obtain ⟨i, e1, js, e2, e3⟩ := h
      rcases List.mem_cons.mp he with q | q
      · subst q; exact ⟨x, p, i, rfl, hl.1, hl.2, e1⟩
      · exact par_get e2 e q
    · cases h
theorem asgT_ok (h : SitS X W k c Γ) {n : Nat} {ts es : List Expr} {kt ke : Nat} {p p2 pos : Pos} {is : List Nat} {r : Es} (h1 : es.any isStar = false) (h2 : es.all (foldedForSure 8) = false) (h3 : es.all (constantsAlone 8) = false) (h4 : es.length = ts.length) (h5 : ts.length = 2 ∨ ts.length = 3)
    (h6 : parTg c ((ts.head?.map (·.pos.line)).getD 0) ts = some is) (h7 : dupFree is = true) (h8 : compEs (compE n c) es = some r) : PS X (.Assign [.Tuple ts kt p] (.Tuple es ke p2) pos) (TMS X W (mAsg (.tup (tgsOf is)) (mTup (wps Γ r)))) := by
  have hk : X.env.scope.kind = .function := by rw [h.sc]; exact h.kind
  have ha := (es_ok (comp_ok n).1 h.toSit h8).1
  have step : ∀ {x : Str} {q : Pos} {ln : Nat} {ts : List Expr} {is : List Nat}, parTg c ln (.Name x q :: ts) = some is → ∃ i js, is = i :: js ∧ parTg c ln ts = some js ∧ ixOf c.N x = some i ∧ c.sc.names.lookup x = some .local ∧ (q.line == ln) = true := by
    intro x q ln ts is h
    simp only [parTg] at h
    split at h
    · rename_i hl
      simp only [Option.bind_eq_some_iff, Option.map_eq_some_iff] at h
      obtain ⟨i, e1, js, e2, e3⟩ := h
      exact ⟨i, js, e3.symm, e2, e1, hl.1, hl.2⟩
    · cases h
  have nm : ∀ {t : Expr} {ln : Nat} {ts : List Expr} {is : List Nat}, parTg c ln (t :: ts) = some is → ∃ x q, t = .Name x q := by
    intro t ln ts is h
    cases t <;> first | (simp [parTg] at h; done) | exact ⟨_, _, rfl⟩
  match ts, es, h5, h4 with
  | [t1, t2], [a, b], _, _ =>
    obtain ⟨x, q1, rfl⟩ := nm h6
    obtain ⟨i, js, rfl, g2, i1, l1, _⟩ := step h6
    obtain ⟨y, q2, rfl⟩ := nm g2
    obtain ⟨j, js, rfl, g3, i2, l2, n2⟩ := step g2
    cases g3
    have hij : i ≠ j := by intro z; subst z; simp [dupFree] at h7
    have hxy := ix_inj i1 i2 hij
    have l1' : X.env.scope.names.lookup x = some .local := by rw [h.sc]; exact l1
    have l2' : X.env.scope.names.lookup y = some .local := by rw [h.sc]; exact l2
    exact ss_par h.cd.calm h.ndX (h.hN i1) (h.hN i2) hij l1' l2' ha (ss_two hk l1' l2' n2 hxy h1 h2 h3) rfl
  | [t1, t2, t3], [a, b, d], _, _ =>
    obtain ⟨x, q1, rfl⟩ := nm h6
    obtain ⟨i, js, rfl, g2, i1, l1, _⟩ := step h6
    obtain ⟨y, q2, rfl⟩ := nm g2
    obtain ⟨j, js, rfl, g3, i2, l2, n2⟩ := step g2
    obtain ⟨z, q3, rfl⟩ := nm g3
    obtain ⟨m, js, rfl, g4, i3, l3, n3⟩ := step g3
    cases g4
    have h7' : (i ≠ j ∧ i ≠ m) ∧ j ≠ m := by simpa [dupFree] using h7
    have l1' : X.env.scope.names.lookup x = some .local := by rw [h.sc]; exact l1
    have l2' : X.env.scope.names.lookup y = some .local := by rw [h.sc]; exact l2
    have l3' : X.env.scope.names.lookup z = some .local := by rw [h.sc]; exact l3
    exact ss_par3 h.cd.calm h.ndX (h.hN i1) (h.hN i2) (h.hN i3) h7'.1.1 h7'.1.2 h7'.2 l1' l2' l3' ha (ss_three hk l1' l2' l3' n2 n3 (ix_inj i1 i2 h7'.1.1) (ix_inj i1 i3 h7'.1.2) (ix_inj i2 i3 h7'.2) h1 h2 h3) rfl
  | [], _, h5, _ => simp at h5
  | [_], _, h5, _ => simp at h5
  | _ :: _ :: _ :: _ :: _, _, h5, _ => simp at h5
  | [_, _], [], _, h4 => simp at h4
  | [_, _], [_], _, h4 => simp at h4
  | [_, _], _ :: _ :: _ :: _, _, h4 => simp at h4
  | [_, _, _], [], _, h4 => simp at h4
  | [_, _, _], [_], _, h4 => simp at h4
  | [_, _, _], [_, _], _, h4 => simp at h4
  | [_, _, _], _ :: _ :: _ :: _ :: _, _, h4 => simp at h4
theorem nocomp_sw {e : Expr} {tg : Expr} {l : Nat} {env : Env} (h : isComp e ≠ true) : swapsWith e (some tg) l env = pure false ∧ swapsWith e none l env = pure false := by
  cases e <;> first | exact ⟨rfl, rfl⟩ | exact absurd rfl h
theorem tup_sw {e : Expr} {ts : List Expr} {kt : Nat} {p : Pos} {l : Nat} {env : Env} : swapsWith e (some (.Tuple ts kt p)) l env = pure false := by cases e <;> rfl
theorem asg_ok (h : SitS X W k c Γ) {n : Nat} {tg e : Expr} {pos : Pos} {s : S} (q : compA n c tg e = some s) : PS X (.Assign [tg] e pos) (TMS X W (ws Γ s)) := by
  have hk : X.env.scope.kind = .function := by rw [h.sc]; exact h.kind
  have bd : ∀ {α β : Type} {o : Option α} {g : α → Option β} {r : β}, o.bind g = some r → ∃ a, o = some a ∧ g a = some r := fun {α β o g r} e => by
    simpa only [Option.bind_eq_some_iff] using e
  have mp : ∀ {α β : Type} {o : Option α} {g : α → β} {r : β}, o.map g = some r → ∃ a, o = some a ∧ r = g a := fun {α β o g r} e => by
    simp only [Option.map_eq_some_iff] at e
    obtain ⟨x, e1, e2⟩ := e
    exact ⟨x, e1, e2.symm⟩
  obtain ⟨hE, hT⟩ := comp_ok n
  unfold compA at q
  split at q
  · rename_i o i p2
    split at q
    · cases q
    · rename_i hs
      simp only [not_or] at hs
      obtain ⟨z, e1, q⟩ := bd q
      obtain ⟨x, e2, q⟩ := bd q
      obtain ⟨y, e3, q⟩ := bd q
      cases q
      obtain ⟨n1, n2⟩ := compE_noset e1
      have hz : swB X.env.scope e (.Subscript o i p2) = false := by cases e <;> rfl
      refine ss_put h.cd (hE h.toSit e2) (hE h.toSit e3) (hE h.toSit e1) (sw_no (tg := .Subscript o i p2) (l := pos.line) hk hz n1 n2) (ss_none (.inl (by simp [isTupE])) (by simp)) rfl ?_
      intro v
      cases i <;> first | rfl | exact absurd rfl hs.1
  · rename_i ts kt p
    split at q
    · rename_i es ke p2
      split at q
      · rename_i hns
        obtain ⟨g, e1, q⟩ := bd q
        obtain ⟨r, e2, rfl⟩ := mp q
        exact ss_asg (hE h.toSit e2) (tg_ok h.toSit _ _ e1) (nocomp_sw (e := .Tuple es ke p2) (tg := .Tuple ts kt p) (l := pos.line) (env := X.env) (by simp [isComp])).1 (ss_noswap (by have hsc := h.sc; rw [hsc]; exact hns)) rfl
      split at q
      · rename_i hc
        obtain ⟨h1, h2, h3, h4, h5⟩ := hc
        obtain ⟨is, e1, q⟩ := bd q
        split at q
        · rename_i hd
          obtain ⟨r, e2, rfl⟩ := mp q
          exact asgT_ok h h1 h2 h3 h4 h5 e1 hd e2
        · cases q
      · cases q
    · rename_i hne
      · obtain ⟨g, e1, q⟩ := bd q
        obtain ⟨r, e2, rfl⟩ := mp q
        exact ss_asg (hE h.toSit e2) (tg_ok h.toSit _ _ e1) (tup_sw (e := e) (ts := ts) (kt := kt) (p := p) (l := pos.line) (env := X.env)) (ss_none (.inr (by cases e <;> first | (simp [isTupE]; done) | exact absurd rfl (hne _ _ _))) (by simp)) rfl
  · obtain ⟨g, e1, q⟩ := bd q
    obtain ⟨r, e2, rfl⟩ := mp q
    exact name_ok h e1 e2
  · cases q
theorem body_ok : ∀ n : Nat, (∀ {X : Cx} {W : WX} {st : Stmt} {s : S}, SitS X W k c Γ → compS n c st = some s → PS X st (TMS X W (ws Γ s))) ∧ (∀ {X : Cx} {W : WX} {sts : List Stmt} {ss : Ss}, SitS X W k c Γ → compSs n c sts = some ss → PSs X sts (TMS X W (wss Γ ss)))
  | 0 => ⟨fun h q => by simp [compS] at q, fun h q => by simp [compSs] at q⟩
  | n + 1 => by
    obtain ⟨i1, i2⟩ := body_ok n
    have bd : ∀ {α β : Type} {o : Option α} {g : α → Option β} {r : β}, o.bind g = some r → ∃ a, o = some a ∧ g a = some r := fun {α β o g r} e => by
      simpa only [Option.bind_eq_some_iff] using e
    have mp : ∀ {α β : Type} {o : Option α} {g : α → β} {r : β}, o.map g = some r → ∃ a, o = some a ∧ r = g a := fun {α β o g r} e => by
      simp only [Option.map_eq_some_iff] at e
      obtain ⟨x, e1, e2⟩ := e
      exact ⟨x, e1, e2.symm⟩
    obtain ⟨hE, hT⟩ := comp_ok n
    refine ⟨fun {X W st s} h q => ?_, fun {X W sts ss} h q => ?_⟩
    · unfold compS at q
      split at q
      · exact asg_ok h q
      · cases q; exact ss_doc
      · split at q
        · cases q
        · rename_i hcm
          obtain ⟨r, e1, rfl⟩ := mp q
          exact ss_ex (hE h.toSit e1) (nocomp_sw (tg := .Name "" default) hcm).2
      · obtain ⟨r, e1, rfl⟩ := mp q
        exact ss_ret (hE h.toSit e1)
      · cases q; exact ss_retN
      · obtain ⟨x, e1, q⟩ := bd q
        obtain ⟨y, e2, q⟩ := bd q
        obtain ⟨z, e3, q⟩ := bd q
        cases q
        exact ss_if (hT h.toSit e1) (i2 h e2) (i2 h e3)
      · obtain ⟨x, e1, q⟩ := bd q
        obtain ⟨y, e2, q⟩ := bd q
        cases q
        exact ss_whl h.pass (hT h.toSit e1) (i2 h e2)
      · obtain ⟨x, e1, q⟩ := bd q
        obtain ⟨y, e2, q⟩ := bd q
        obtain ⟨z, e3, q⟩ := bd q
        cases q
        obtain ⟨hi, hns⟩ := it_ok hE h.toSit e1
        exact ss_for h.pass h.cd.calm hi (tg_ok h.toSit _ _ e2) (i2 h e3) (fold_no hns)
      · cases q; exact ss_brk
      · cases q; exact ss_cnt
      · cases q; exact ss_pass
      · exact raise_ok h q
      · obtain ⟨x, e1, q⟩ := bd q
        obtain ⟨y, e2, q⟩ := bd q
        cases q
        exact try_ok h (fun W' pn xe tk ps => i2 (h.tr tk ps) e1) e2
      · cases q
    · unfold compSs at q
      split at q
      · cases q; exact sss_nil
      · obtain ⟨x, e1, q⟩ := bd q
        obtain ⟨y, e2, q⟩ := bd q
        cases q
        exact sss_cons (ma := ws Γ x) (mb := wss Γ y) (i1 h e1) (i2 h e2)
end
end Lay

set_option Elab.async false
set_option maxRecDepth 100000
set_option linter.all false
/-! Lay, part R: defs. What a def made for itself is dropped where it ends. -/
namespace Lay
open PySem L2 RZ PyProof.Rows

/-! ### from cells to trees -/
section
variable (M : Mem) (k p : Nat)
mutual
inductive Fz : D → D → Prop
  | non : Fz .non .non
  | bl (b : Bool) : Fz (.bl b) (.bl b)
  | int (i : Int) : Fz (.int i) (.int i)
  | str (x : Str) : Fz (.str x) (.str x)
  | ty (n : String) : Fz (.ty n) (.ty n)
  | tup {xs ys : List D} : Fzs xs ys → Fz (.tup xs) (.tup ys)
  | lst {xs ys : List D} : Fzs xs ys → Fz (.lst xs) (.lst ys)
  | fz {xs ys : List D} : Fzs xs ys → Fz (.fz xs) (.fz ys)
  | dct {xs ys : List (Key × D)} : Fzk xs ys → Fz (.dct xs) (.dct ys)
  | loc {n : Nat} : n < k → n ≠ p → Fz (.loc n) (.loc n)
  | locL {n : Nat} {xs ys : List D} : k ≤ n → n ≠ p → M[n]? = some (.lst xs) → Fzs xs ys → Fz (.loc n) (.lst ys)
  | locD {n : Nat} {xs ys : List (Key × D)} : k ≤ n → n ≠ p → M[n]? = some (.dic xs) → Fzk xs ys → Fz (.loc n) (.dct ys)
inductive Fzs : List D → List D → Prop
  | nil : Fzs [] []
  | cons {d e : D} {ds es : List D} : Fz d e → Fzs ds es → Fzs (d :: ds) (e :: es)
inductive Fzk : List (Key × D) → List (Key × D) → Prop
  | nil : Fzk [] []
  | cons {j : Key} {d e : D} {ds es : List (Key × D)} : Fz d e → Fzk ds es → Fzk ((j, d) :: ds) ((j, e) :: es)
end
/-- a cell with nothing new in it -/
def FzC : Cell → Prop
  | .lst xs => Fzs M k p xs xs
  | .dic xs => Fzk M k p xs xs
end
/-! a tree without cells -/
mutual
def noLoc : D → Bool
  | .loc _ => false
  | .fr _ => false
  | .tup xs => noLocs xs
  | .lst xs => noLocs xs
  | .fz xs => noLocs xs
  | .dct xs => noLock xs
  | _ => true
def noLocs : List D → Bool
  | [] => true
  | x :: xs => noLoc x && noLocs xs
def noLock : List (Key × D) → Bool
  | [] => true
  | (_, x) :: xs => noLoc x && noLock xs
end
section
variable {M : Mem} {k p : Nat}
mutual
theorem Fz.self : ∀ (d : D), noLoc d = true → Fz M k p d d
  | .non, _ => .non
  | .bl _, _ => .bl _
  | .int _, _ => .int _
  | .str _, _ => .str _
  | .ty _, _ => .ty _
  | .tup xs, h => .tup (Fzs.self xs (by simpa [noLoc] using h))
  | .lst xs, h => .lst (Fzs.self xs (by simpa [noLoc] using h))
  | .fz xs, h => .fz (Fzs.self xs (by simpa [noLoc] using h))
  | .dct xs, h => .dct (Fzk.self xs (by simpa [noLoc] using h))
  | .loc _, h => by simp [noLoc] at h
  | .fr _, h => by simp [noLoc] at h
theorem Fzs.self : ∀ (d : List D), noLocs d = true → Fzs M k p d d
  | [], _ => .nil
  | x :: xs, h => by
    simp only [noLocs, Bool.and_eq_true] at h
    exact .cons (Fz.self x h.1) (Fzs.self xs h.2)
theorem Fzk.self : ∀ (d : List (Key × D)), noLock d = true → Fzk M k p d d
  | [], _ => .nil
  | (j, x) :: xs, h => by
    simp only [noLock, Bool.and_eq_true] at h
    exact .cons (Fz.self x h.1) (Fzk.self xs h.2)
end
end
section
variable {K : PySem.W.Frag} {ρ ρ' : Rg} {M M' : Mem} {H H' H2 : Hp} {k p : Nat}
mutual
theorem RD.low (hk : ρ.l.length ≤ k) (hp : ρ.l.length ≤ p) : ∀ (d : D) (v : V), RD ρ K H d v → Fz M' k p d d
  | .non, _, _ => .non
  | .bl _, _, _ => .bl _
  | .int _, _, _ => .int _
  | .str _, _, _ => .str _
  | .ty _, _, _ => .ty _
  | .tup xs, _, h => by cases h with | tup h1 h2 => exact .tup (RDs.low hk hp xs _ h2)
  | .lst xs, _, h => by cases h with | lst h1 h2 h3 => exact .lst (RDs.low hk hp xs _ h3)
  | .fz xs, _, h => by cases h with | fz h1 h2 => exact .fz (RDs.low hk hp xs _ h2)
  | .dct xs, _, h => by cases h with | dct h1 h2 h3 => exact .dct (RDk.low hk hp xs _ h3)
  | .loc n, _, h => by
    cases h with
    | loc h1 =>
      have := (List.getElem?_eq_some_iff.mp h1).1
      exact .loc (by omega) (by omega)
  | .fr _, _, h => by cases h
theorem RDs.low (hk : ρ.l.length ≤ k) (hp : ρ.l.length ≤ p) : ∀ (d : List D) (v : List V), RDs ρ K H d v → Fzs M' k p d d
  | [], _, _ => .nil
  | x :: xs, _, h => by cases h with | cons h1 h2 => exact .cons (RD.low hk hp x _ h1) (RDs.low hk hp xs _ h2)
theorem RDk.low (hk : ρ.l.length ≤ k) (hp : ρ.l.length ≤ p) : ∀ (d : List (Key × D)) (v : List (Key × V)), RDk ρ K H d v → Fzk M' k p d d
  | [], _, _ => .nil
  | (j, x) :: xs, _, h => by cases h with | cons h1 h2 => exact .cons (RD.low hk hp x _ h1) (RDk.low hk hp xs _ h2)
end
/-- the region of the first k cells -/
structure Cut (K : PySem.W.Frag) (ρ ρ' : Rg) (M' : Mem) (H' H2 : Hp) (k p : Nat) : Prop where
  rel : Rel K ρ' M' H'
  pre : ρ.l <+: ρ'.l
  hd : ρ'.h = ρ.h
  len : ρ.l.length = k
  same : ∀ (b : Addr) (o : HO), H' b = some o → (∀ n, ρ'.l[n]? = some b → n ≠ p) → H2 b = some o
theorem Cut.no (c : Cut K ρ ρ' M' H' H2 k p) {a : Addr} (h : ρ'.no a) : ρ.no a := ⟨fun z => h.1 (c.pre.subset z), by rw [← c.hd]; exact h.2⟩
theorem Cut.keep (c : Cut K ρ ρ' M' H' H2 k p) {a : Addr} {o : HO} (e : H' a = some o) (h : a ∉ ρ'.l) : H2 a = some o := c.same a o e fun n z => absurd (List.mem_of_getElem? z) h
theorem Cut.notin (c : Cut K ρ ρ' M' H' H2 k p) {a : Addr} {o : HO} (e : H' a = some o) (h : ¬ IsCell o) : a ∉ ρ'.l := fun z => by
  obtain ⟨u, e1, q⟩ := c.rel.at a (.inl z)
  rw [e] at e1; cases e1; exact h q
theorem Cut.rd (c : Cut K ρ ρ' M' H' H2 k p) {a : Addr} {u : HO} (hu : ¬ IsCell u) (h : Rd H' a u) : Rd H2 a u := by
  rcases h with h | ⟨o, h⟩
  · exact .inl (c.keep h (c.notin h hu))
  · exact .inr ⟨o, c.keep h (c.notin h fun z => z)⟩
theorem Cut.new (c : Cut K ρ ρ' M' H' H2 k p) {n : Nat} {a : Addr} (hn : k ≤ n) (e : ρ'.l[n]? = some a) : ρ.no a := by
  have hl := (List.getElem?_eq_some_iff.mp e).1
  refine ⟨fun z => ?_, fun z => c.rel.apart a (List.mem_of_getElem? e) (by rw [c.hd]; exact z)⟩
  obtain ⟨m, hm⟩ := List.mem_iff_getElem?.mp z
  have hm' := pre_get c.pre hm
  have h1 := (List.getElem?_eq_some_iff.mp hm).1
  have := (List.getElem?_inj hl c.rel.nd).mp (e.trans hm'.symm)
  have := c.len
  omega
mutual
theorem Cut.back (c : Cut K ρ ρ' M' H' H2 k p) : ∀ (d e : D) (v : V), Fz M' k p d e → RD ρ' K H' d v → RD ρ K H2 e v
  | _, .non, _, h, q => by cases h; cases q; exact .non
  | _, .bl _, _, h, q => by cases h; cases q; exact .bl _
  | _, .int _, _, h, q => by cases h; cases q; exact .int _
  | _, .str _, _, h, q => by cases h; cases q; exact .str _
  | _, .ty _, _, h, q => by cases h; cases q; exact .ty _
  | _, .tup ys, _, h, q => by
    cases h with
    | tup h1 =>
      cases q with
      | tup q1 q2 => exact .tup (q1.imp (c.rd fun z => z) id) (Cut.backs c _ ys _ h1 q2)
  | _, .lst ys, _, h, q => by
    cases h with
    | lst h1 =>
      cases q with
      | lst q1 q2 q3 => exact .lst (c.keep q1 q2.1) (c.no q2) (Cut.backs c _ ys _ h1 q3)
    | locL h1 h2 h3 h4 =>
      cases q with
      | loc q1 =>
        obtain ⟨o, e1, vs, e2, q2⟩ := c.rel.cell _ _ _ h3 q1
        subst e2
        refine .lst (c.same _ _ e1 fun m hm => ?_) (c.new h1 q1) (Cut.backs c _ ys _ h4 q2)
        have hl := (List.getElem?_eq_some_iff.mp hm).1
        rw [(List.getElem?_inj hl c.rel.nd).mp (hm.trans q1.symm)]
        exact h2
  | _, .fz ys, _, h, q => by
    cases h with
    | fz h1 =>
      cases q with
      | fz q1 q2 => exact .fz (q1.imp (fun ⟨o, z⟩ => ⟨o, c.keep z (c.notin z fun z => z)⟩) id) (Cut.backs c _ ys _ h1 q2)
  | _, .dct ys, _, h, q => by
    cases h with
    | dct h1 =>
      cases q with
      | dct q1 q2 q3 => exact .dct (c.keep q1 q2.1) (c.no q2) (Cut.backk c _ ys _ h1 q3)
    | locD h1 h2 h3 h4 =>
      cases q with
      | loc q1 =>
        obtain ⟨o, e1, vs, e2, q2⟩ := c.rel.cell _ _ _ h3 q1
        subst e2
        refine .dct (c.same _ _ e1 fun m hm => ?_) (c.new h1 q1) (Cut.backk c _ ys _ h4 q2)
        have hl := (List.getElem?_eq_some_iff.mp hm).1
        rw [(List.getElem?_inj hl c.rel.nd).mp (hm.trans q1.symm)]
        exact h2
  | _, .loc n, _, h, q => by
    cases h with
    | loc h1 h2 =>
      cases q with
      | loc q1 =>
        refine .loc ?_
        obtain ⟨t, ht⟩ := c.pre
        have := c.len
        rw [← ht, List.getElem?_append_left (by omega)] at q1
        exact q1
  | _, .fr _, _, h, q => by cases h
theorem Cut.backs (c : Cut K ρ ρ' M' H' H2 k p) : ∀ (d e : List D) (v : List V), Fzs M' k p d e → RDs ρ' K H' d v → RDs ρ K H2 e v
  | _, [], _, h, q => by cases h; cases q; exact .nil
  | _, y :: ys, _, h, q => by
    cases h with
    | cons h1 h2 =>
      cases q with
      | cons q1 q2 => exact .cons (Cut.back c _ y _ h1 q1) (Cut.backs c _ ys _ h2 q2)
theorem Cut.backk (c : Cut K ρ ρ' M' H' H2 k p) : ∀ (d e : List (Key × D)) (v : List (Key × V)), Fzk M' k p d e → RDk ρ' K H' d v → RDk ρ K H2 e v
  | _, [], _, h, q => by cases h; cases q; exact .nil
  | _, (j, y) :: ys, _, h, q => by
    cases h with
    | cons h1 h2 =>
      cases q with
      | cons q1 q2 => exact .cons (Cut.back c _ y _ h1 q1) (Cut.backk c _ ys _ h2 q2)
end
theorem Cut.relOf (c : Cut K ρ ρ' M' H' H2 k p) {M1 ex : Mem} (em : M' = M1 ++ ex) (hl : M1.length = k) (hp : k ≤ p) (hc : ∀ (n : Nat) (c : Cell), M1[n]? = some c → FzC M' k p c) : Rel K ρ M1 H2 := by
  have r := c.rel
  refine ⟨r.nd.sublist c.pre.sublist, by rw [c.len, hl], fun n x a e1 e2 => ?_, fun a ha => ?_, fun a ha => ?_⟩
  · have hn : n < M1.length := (List.getElem?_eq_some_iff.mp e1).1
    have e1' : M'[n]? = some x := by rw [em, List.getElem?_append_left hn]; exact e1
    have e2' := pre_get c.pre e2
    obtain ⟨o, e3, q⟩ := r.cell n x a e1' e2'
    refine ⟨o, c.same a o e3 fun m hm => ?_, ?_⟩
    · have hl2 := (List.getElem?_eq_some_iff.mp hm).1
      have := (List.getElem?_inj hl2 r.nd).mp (hm.trans e2'.symm)
      omega
    · have hf := hc n x e1
      cases x with
      | lst ds => obtain ⟨vs, e4, q⟩ := q; exact ⟨vs, e4, c.backs _ _ _ hf q⟩
      | dic ds => obtain ⟨vs, e4, q⟩ := q; exact ⟨vs, e4, c.backk _ _ _ hf q⟩
  · obtain ⟨o, e1, q⟩ := r.hid a (by rw [c.hd]; exact ha)
    exact ⟨o, c.same a o e1 fun n hn => absurd (by rw [c.hd]; exact ha) (r.apart a (List.mem_of_getElem? hn)), q⟩
  · have := r.apart a (c.pre.subset ha)
    rw [c.hd] at this
    exact this
end

/-! ### the end of a def -/
/-- the cells that were there stay or hold nothing new -/
def Kept (M M1 M' : Mem) : Prop := M.length ≤ M1.length ∧ ∀ (n : Nat) (c : Cell), M1[n]? = some c → M[n]? = some c ∨ ∀ p, M1.length ≤ p → FzC M' M1.length p c
def Ret (M : Mem) (Q : Kd) : Kd := fun d M' => ∃ M1 ex, M' = M1 ++ ex ∧ Kept M M1 M' ∧
  ((∃ d', Fz M' M1.length M'.length d d' ∧ Q d' M1) ∨ (∃ e e', d = .fr e ∧ Fz M' M1.length M'.length e e' ∧ Q (.fr e') M1) ∨
    (∃ n xs ys, d = .loc n ∧ M1.length ≤ n ∧ M'[n]? = some (.lst xs) ∧ Fzs M' M1.length n xs ys ∧ Q (.fr (.lst ys)) M1) ∨ (∃ n xs ys, d = .loc n ∧ M1.length ≤ n ∧ M'[n]? = some (.dic xs) ∧ Fzk M' M1.length n xs ys ∧ Q (.fr (.dct ys)) M1))
def RetX (M : Mem) (X : XP) : XP := fun x M' => ∃ M1 ex x', M' = M1 ++ ex ∧ Kept M M1 M' ∧ x'.cls = x.cls ∧ Paired (fun (p q : Str × D) => p.1 = q.1 ∧ Fz M' M1.length M'.length p.2 q.2) x.fs x'.fs ∧ X x' M1
section
variable {K : PySem.W.Frag} {ρ ρ' : Rg} {M M' : Mem} {H H' H2 : Hp}
theorem Kept.fzc {M1 : Mem} {p : Nat} (h : Kept M M1 M') (r : Rel K ρ M H) (hp : M1.length ≤ p) : ∀ (n : Nat) (c : Cell), M1[n]? = some c → FzC M' M1.length p c := fun n c e => by
  rcases h.2 n c e with q | q
  · have hn : n < ρ.l.length := by rw [r.len]; exact (List.getElem?_eq_some_iff.mp q).1
    obtain ⟨o, _, z⟩ := r.cell n c ρ.l[n] q (by simp [hn])
    have hl : ρ.l.length ≤ M1.length := Nat.le_trans (Nat.le_of_eq r.len) h.1
    have hp' : ρ.l.length ≤ p := Nat.le_trans hl hp
    cases c with
    | lst ds => obtain ⟨vs, _, z⟩ := z; exact RDs.low hl hp' _ _ z
    | dic ds => obtain ⟨vs, _, z⟩ := z; exact RDk.low hl hp' _ _ z
  · exact q p hp
def Rg.cut (ρ : Rg) (k : Nat) : Rg := ⟨ρ.l.take k, ρ.h⟩
theorem cut_len (r' : Rel K ρ' M' H') {k : Nat} (hk : k ≤ M'.length) : (ρ'.cut k).l.length = k := by
  show (ρ'.l.take k).length = k
  have := r'.len
  rw [List.length_take]; omega
theorem cut_of (r' : Rel K ρ' M' H') {k p : Nat} (hk : k ≤ M'.length) (same : ∀ (b : Addr) (o : HO), H' b = some o → (∀ n, ρ'.l[n]? = some b → n ≠ p) → H2 b = some o) : Cut K (ρ'.cut k) ρ' M' H' H2 k p :=
  ⟨r', List.take_prefix _ _, rfl, cut_len r' hk, same⟩
theorem Ext.cut (x : Ext ρ H ρ' H') (r : Rel K ρ M H) (r' : Rel K ρ' M' H') {k : Nat} (hk : M.length ≤ k) : Ext ρ H (ρ'.cut k) H' := by
  refine ⟨?_, x.hd, fun a h n => x.fresh a (List.mem_of_mem_take h) n, x.keep, x.dom⟩
  show ρ.l <+: ρ'.l.take k
  have e := List.prefix_iff_eq_take.mp x.pre
  rw [List.prefix_take_iff]
  exact ⟨x.pre, by rw [r.len]; exact hk⟩
theorem ret_kt {Q : Kd} {Qc : VK} (r : Rel K ρ M H) (k : Kt K ρ H Q Qc) : Kt K ρ H (Ret M Q) Qc := by
  intro ρ' M' H' d v x r' rr fr h
  obtain ⟨M1, ex, em, kp, h⟩ := h
  have hle : M1.length ≤ M'.length := by rw [em, List.length_append]; omega
  have C := cut_of (H2 := H') (p := M'.length) r' hle fun _ _ e _ => e
  have r1 : Rel K (ρ'.cut M1.length) M1 H' := C.relOf em rfl hle (kp.fzc r hle)
  have xh := x.cut r r' kp.1
  -- a cell of the def's own is handed out
  have out : ∀ {n : Nat} {c c' : Cell} {a : Addr} {e : D} {o : HO}, M1.length ≤ n → M'[n]? = some c → ρ'.l[n]? = some a → H' a = some o → cellOf e = some c' → RD (ρ'.cut M1.length) K H' e (.ref a) → RC (ρ'.cut M1.length) K (del H' a) c' o → Q (.fr e) M1 → Qc (.ref a) H' := by
    intro n c c' a e o hn hM ha ho ec hrd hrc q
    have C2 : Cut K (ρ'.cut M1.length) ρ' M' H' (del H' a) M1.length n := cut_of r' hle fun b o e z => by rw [del_ne (fun h => z n (by rw [h]; exact ha) rfl)]; exact e
    have r2 : Rel K (ρ'.cut M1.length) M1 (del H' a) := C2.relOf em rfl hn (kp.fzc r hn)
    refine k (ρ'.cut M1.length) M1 H' (.fr e) _ xh r1 ⟨hrd, fun f ef => ⟨a, o, c', rfl, ho, by cases ef; exact ec, r2, hrc⟩⟩ (fun f ef => ⟨a, rfl, ?_⟩) q
    exact x.fresh a (List.mem_of_getElem? ha) fun z => (C2.new hn ha).1 (xh.pre.subset z)
  rcases h with ⟨d', hf, q⟩ | ⟨e, e', rfl, hf, q⟩ | ⟨n, xs, ys, rfl, hn, hM, hf, q⟩ | ⟨n, xs, ys, rfl, hn, hM, hf, q⟩
  · have hd : RD ρ' K H' d v := by
      have := rr.1
      cases d <;> first | exact this | (cases hf)
    exact k (ρ'.cut M1.length) M1 H' d' v xh r1 (RR.of (C.back d d' v hf hd)) (Frs.no (C.back d d' v hf hd).nofr) q
  · obtain ⟨a, o, c, ev, ho, ec, rd, hc⟩ := rr.2 e rfl
    subst ev
    have Cd : Cut K (ρ'.cut M1.length) ρ' M' (del H' a) (del H' a) M1.length M'.length := cut_of rd hle fun _ _ e _ => e
    have r2 : Rel K (ρ'.cut M1.length) M1 (del H' a) := Cd.relOf em rfl hle (kp.fzc r hle)
    have hrd : RD (ρ'.cut M1.length) K H' e' (.ref a) := C.back e e' _ hf rr.1
    have fin : ∀ c', cellOf e' = some c' → RC (ρ'.cut M1.length) K (del H' a) c' o → Qc (.ref a) H' := fun c' ec' hc' =>
      k (ρ'.cut M1.length) M1 H' (.fr e') _ xh r1 ⟨hrd, fun f ef => ⟨a, o, c', rfl, ho, by cases ef; exact ec', r2, hc'⟩⟩ (fun f ef => ⟨a, rfl, by obtain ⟨b, eb, hb⟩ := fr e rfl; cases eb; exact hb⟩) q
    cases e with
    | lst xs =>
      cases ec
      cases hf with
      | lst h1 =>
        obtain ⟨vs, eo, q1⟩ := hc
        exact fin _ rfl ⟨vs, eo, Cd.backs _ _ _ h1 q1⟩
    | dct xs =>
      cases ec
      cases hf with
      | dct h1 =>
        obtain ⟨vs, eo, q1⟩ := hc
        exact fin _ rfl ⟨vs, eo, Cd.backk _ _ _ h1 q1⟩
    | _ => cases ec
  · cases rr.1 with
    | @loc _ a ha =>
      obtain ⟨o, ho, vs, eo, q1⟩ := r'.cell _ _ _ hM ha
      subst eo
      have C2 : Cut K (ρ'.cut M1.length) ρ' M' H' (del H' a) M1.length n := cut_of r' hle fun b o e z => by rw [del_ne (fun h => z n (by rw [h]; exact ha) rfl)]; exact e
      have hb := C2.backs _ _ _ hf q1
      have r2 : Rel K (ρ'.cut M1.length) M1 (del H' a) := C2.relOf em rfl hn (kp.fzc r hn)
      exact out (c' := .lst ys) hn hM ha ho rfl (.lst ho (C2.new hn ha) (r2.monos Ext.undel hb)) ⟨vs, rfl, hb⟩ q
  · cases rr.1 with
    | @loc _ a ha =>
      obtain ⟨o, ho, vs, eo, q1⟩ := r'.cell _ _ _ hM ha
      subst eo
      have C2 : Cut K (ρ'.cut M1.length) ρ' M' H' (del H' a) M1.length n := cut_of r' hle fun b o e z => by rw [del_ne (fun h => z n (by rw [h]; exact ha) rfl)]; exact e
      have hb := C2.backk _ _ _ hf q1
      have r2 : Rel K (ρ'.cut M1.length) M1 (del H' a) := C2.relOf em rfl hn (kp.fzc r hn)
      exact out (c' := .dic ys) hn hM ha ho rfl (.dct ho (C2.new hn ha) (r2.monok Ext.undel hb)) ⟨vs, rfl, hb⟩ q
theorem fs_back {p k : Nat} (C : Cut K ρ ρ' M' H' H2 k p) : ∀ {xf yf : List (Str × D)} {fx : List (Str × V)}, Paired (fun (a b : Str × D) => a.1 = b.1 ∧ Fz M' k p a.2 b.2) xf yf → Paired (fun (a : Str × D) (b : Str × V) => a.1 = b.1 ∧ RD ρ' K H' a.2 b.2) xf fx →
    Paired (fun (a : Str × D) (b : Str × V) => a.1 = b.1 ∧ RD ρ K H2 a.2 b.2) yf fx
  | _, _, _, .nil, h => by cases h; exact .nil
  | _, _, _, .cons h1 h2, h => by
    cases h with
    | cons p1 p2 => exact .cons ⟨h1.1.symm.trans p1.1, C.back _ _ _ h1.2 p1.2⟩ (fs_back C h2 p2)
theorem ret_kx {mg : Str → Option Value} {X : XP} {E : Value → Option Addr → Hp → Prop} (r : Rel K ρ M H) (k : KX mg K ρ H X E) : KX mg K ρ H (RetX M X) E := by
  intro ρ' M' H' x cls dd xt r' hx h
  obtain ⟨M1, ex, x', em, kp, ec, hf, q⟩ := h
  have hle : M1.length ≤ M'.length := by rw [em, List.length_append]; omega
  have C := cut_of (H2 := H') (p := M'.length) r' hle fun _ _ e _ => e
  have r1 : Rel K (ρ'.cut M1.length) M1 H' := C.relOf em rfl hle (kp.fzc r hle)
  refine k (ρ'.cut M1.length) M1 H' x' cls dd (xt.cut r r' kp.1) r1 ?_ q
  obtain ⟨Cl, e1, e2, h⟩ := hx
  obtain ⟨xc, xf⟩ := x
  obtain ⟨xc', xf'⟩ := x'
  refine ⟨Cl, by rw [ec]; exact e1, e2, ?_⟩
  cases dd with
  | none =>
    have h : xf = [] := h
    show xf' = []
    subst h
    cases hf; rfl
  | some d =>
    obtain ⟨fx, e3, hp⟩ := h
    refine ⟨fx, e3, ?_⟩
    exact fs_back C hf hp
end
end Lay

set_option Elab.async false
set_option maxRecDepth 100000
set_option linter.all false
/-! Lay, part S: a def by its body. -/
namespace Lay
open PySem L2 RZ PyProof.Rows

def startD (N : List Str) (ds : List D) : Sl := ds.map some ++ List.replicate (N.length - ds.length) none
/-- what a def's end has to give -/
def bodyPo (M : Mem) (X : XP) (Q : Kd) : Po where
  nx := fun _ M' => Ret M Q .non M'
  rt := Ret M Q
  xe := fun x _ M' => RetX M X x M'
section
variable {P : Program} {w : World} {K : PySem.W.Frag} {mg : Str → Option Value} {base : Heap} {k n : Nat} {c : CC} {Γ : Gam}
theorem rs_start {N : List Str} {ρ : Rg} {H : Hp} {ds : List D} {vs : List V} (h : RDs ρ K H ds vs) : RS K ρ H (startD N ds) (L2.start N vs) := by
  refine ⟨by unfold startD L2.start; simp [h.len], fun i d e => ?_⟩
  unfold startD at e
  unfold L2.start
  by_cases hi : i < ds.length
  · rw [List.getElem?_append_left (by simpa using hi), List.getElem?_map] at e
    cases hd : ds[i]? with
    | none => rw [hd] at e; cases e
    | some d' =>
      rw [hd] at e
      cases e
      obtain ⟨v, ev, q⟩ := h.get hd
      exact ⟨v, by rw [List.getElem?_append_left (by simpa [← h.len] using hi), List.getElem?_map, ev]; rfl, q⟩
  · rw [List.getElem?_append_right (by simpa using hi), List.getElem?_replicate] at e
    split at e <;> cases e
theorem deeper_guards {A : Around} {env : Env} (h : A.guards = some []) : (A.deeper env).guards = some [] := by
  first | exact h | (simp [Around.deeper, h])
/-- a def by its body's wish -/
theorem g_of {f : Addr} {name qual : Str} {params : Arguments} {body : List Stmt} {scope : Scope} {dV kV doc pm cdv ct oc : Value} {an od : Option Addr} {osl : Array (Option Value)} {ps : List Str} {ir : Ss} {SP : List D → Mem → XP → Kd → Prop}
    (hlook : K.lookup f = some ⟨oc, od, .func (PySem.W.fnOf name qual params body scope dV kV doc pm an cdv ct), osl⟩) (hcode : PySem.W.codeIn K cdv qual = true) (fs : FnScope c.N ps scope) (esc : c.sc = scope) (efc : c.fc = scope.names) (hbt : ∀ x ∈ bNames, mg x = none)
    (hsys : ∃ o, base.get? sysModules = some o) (hcal : ∀ X : Cx, X.prog = P → X.w = w → X.K = K → X.mg = mg → X.base = base → ∀ x g, (x, g) ∈ c.fs → Callee X k x g (Γ x)) (hgl : ∀ x d, (x, d) ∈ c.gs → ∃ v u, mg x = some u ∧ RelV v u ∧ ∀ ρ H, RD ρ K H d v)
    (hk1 : 1 ≤ k) (hex : Exs P K mg) (hxp : ∀ x ∈ c.xs, mg x ≠ none) (hcomp : compSs n c body = some ir) (hspec : ∀ ds M X Q, ds.length = ps.length → SP ds M X Q → wss Γ ir (bodyPo M X Q) (startD c.N ds) M) :
    FnG P w K mg base (k + 1) f (PySem.W.fnOf name qual params body scope dV kV doc pm an cdv ct) ps SP := by
  refine ⟨fun A outer s H args us vs Q E hgu room e0 bind vals sp => ?_⟩
  obtain ⟨hlen, ρ, M, ds, Q0, Xp, rel, rds, hS, kt, kx⟩ := sp
  have kin : K.In s.heap := e0.mod.kin.keeps fun b o z => (e0.bs b o z).1
  have nolim : s.heap.NoLimit := e0.mod.nolimit.keeps fun b o z => (e0.bs b o z).1
  refine codeAny_call_function room.depth (kin _ _ hlook) rfl fs.co fs.gen rfl (PySem.W.codeRec_of kin hcode) (bind _ _ _ _ (wpAny_newFunctionEnv_cells fs.kind (fun q hq => ?_) fun env he s1 xin => ?_))
  · rcases fs.par q.1 (List.of_mem_zip hq).1 with z | z
    · exact .inl z
    · exact .inr ⟨z, PySem.W.cellsFrom_some _ _ _ (.inl z)⟩
  subst he
  refine ⟨nolim.keeps xin.toInCall.keep, codeAny_func ?_⟩
  have room' : Room k (A.deeper (envOfC qual scope s.heap.objs.size f cdv)) := room.deeper _
  have inv := inv_start (CX := L2.CX P w) (E := E) fs room.hd e0 hlen vals xin
  have sit : SitS (cxOf (L2.CX P w) P w K mg base c.N qual scope f cdv A outer s H E) (fun cls dd _ h => E cls dd h) k c Γ :=
    { N := rfl, nd := fs.nd, sc := esc.symm, kind := by rw [esc]; exact fs.kind, fn := fun _ _ => rfl
      cd := ⟨rfl, by have := room'.un; show (A.deeper _).units + 66 < cLine; omega, deeper_guards hgu, hsys⟩
      room := room', tk := takes_of rfl rfl rfl rfl, bt := hbt, cal := hcal _ rfl rfl rfl rfl rfl, gl := hgl, pass := passes_of rfl, stk := rfl, frm := rfl, ex := hex, xp := hxp, r1 := room'.mono hk1 }
  have hb := (body_ok n).2 sit hcomp
  have hle : ds.length = ps.length := by rw [rds.len]; exact hlen
  have run := hb.run [] s1 (L2.start c.N vs) H { nx := fun _ H' => Q .non H', rt := Q } inv ⟨ρ, M, startD c.N ds, bodyPo M Xp Q0, rel, rs_start rds, hspec ds M Xp Q0 hle hS,
    ⟨fun ρ' M' H' σ' σc' x r' _ q => (ret_kt rel kt) ρ' M' H' .non .non x r' (RR.of .non) (Frs.no fun _ z => by cases z) q, fun _ _ _ _ _ _ _ _ q => q.elim, fun _ _ _ _ _ _ _ _ q => q.elim, ret_kt rel kt,
      fun ρ' M' H' σ' σc' x cls dd xt r' _ rx q => (ret_kx rel kx) ρ' M' H' x cls dd xt r' rx q⟩⟩
  refine wpAny_mono run (fun fl s' hs => ?_) fun e s' hs => hs
  cases fl with
  | next =>
    obtain ⟨_, H', J, q⟩ := hs
    exact ⟨V.non, H', J.os, J.bare, J.base, J.hok, rfl, q⟩
  | ret u =>
    obtain ⟨v, _, H', J, rv, q⟩ := hs
    exact ⟨v, H', J.os, J.bare, J.base, J.hok, rv, q⟩
  | brk => exact hs.elim fun _ z => z.elim fun _ z => z.2.elim
  | cont => exact hs.elim fun _ z => z.elim fun _ z => z.2.elim
end
end Lay

set_option Elab.async false
set_option maxRecDepth 100000
set_option linter.all false
/-! Lay, part T: the law's own call. -/
namespace Lay
open PySem L2 RZ PyProof.Rows

theorem rds_fz {ρ : Rg} {K : PySem.W.Frag} {H : Hp} : ∀ ns : List Int, RDs ρ K H (ns.map D.int) (ns.map V.int)
  | [] => .nil
  | n :: ns => .cons (.int n) (rds_fz ns)
abbrev SD := List D → Mem → XP → Kd → Prop
/-- from a heap in which nothing but the script may be tracked -/
theorem lay_core {P : Program} {w : World} {K : PySem.W.Frag} {mg mb : Str → Option Value} {k : Nat} {fa a : Addr} {fd : FuncData} {x : Str} {S : SD} {s1 : Shared} {us : List Value} {ns : List Int}
    (kin : K.In s1.heap) (hmg : s1.heap.Ns mainGlobals mg) (hmb : s1.heap.Ns builtinsNs mb) (hbo : ∀ x : Str, x ≠ "__name__" → mb x = bootBuiltins x) (hnl : s1.heap.NoLimit) (hsys : ∃ m, s1.heap.Ns sysModules m) (hgen : s1.gens = #[])
    (hobj : s1.heap.get? a = some { cls := .type "list", data := .seq us.toArray }) (room : Room k callerA)
    (F : ∀ base : Heap, K.In base → base.Ns mainGlobals mg → (∃ o, base.get? sysModules = some o) → FnG P w K mg base k fa fd [x] S) (hbind : ∀ (s : Shared) (u : Value), BindsTo s fd ⟨[u], []⟩ [(x, u)])
    (hS : S [.fz (ns.map D.int)] [] (fun _ _ => False) fun d _ => d = .bl true)
    (H : Hp) (only : Only H) (fz : FzL K H a (ns.map V.int)) (hok : HOk P w H s1.heap) (here : ∀ b, H b ≠ none → b = a) (out : H a ≠ none → K.lookup a = none) :
    codeAny (model P w) callerA (.call (.ref fa) ⟨[.ref a], []⟩) (fun r s' => r = .ok (.ret (.bool true)) ∧ OldK s1.heap s'.heap ∧ s'.os = s1.os ∧ AllBare s'.gens) s1 := by
  have nodict : ∀ {b : Addr} {o : Obj} {es : Array DictEntry} {n : Nat}, s1.heap.get? b = some o → o.data = .dict es n → H b = none := by
    intro b o es n e d
    by_cases z : H b = none
    · exact z
    · obtain rfl := here b z
      rw [hobj] at e
      cases e
      cases (show Data.seq us.toArray _ = Data.dict es n from d)
  have ns1 : ∀ {b : Addr} {m : Str → Option Value}, s1.heap.Ns b m → (hidT s1.heap H).Ns b m := by
    intro b m h
    obtain ⟨o, es, n, e, d, r⟩ := h
    exact ⟨o, es, n, hidT_get e (nodict e d), d, r⟩
  have kb : K.In (hidT s1.heap H) := fun b o e => by
    refine hidT_get (kin b o e) ?_
    by_cases z : H b = none
    · exact z
    · obtain rfl := here b z
      rw [out z] at e
      cases e
  have sysb : ∃ o, (hidT s1.heap H).get? sysModules = some o := by
    obtain ⟨m, h⟩ := hsys
    obtain ⟨o, _, _, e, _⟩ := ns1 h
    exact ⟨o, e⟩
  have md : Mod K mg (hidT s1.heap H) := by
    obtain ⟨mc, g1, g2⟩ := hnl
    exact ⟨kb, ns1 hmg, ⟨mb, ns1 hmb, hbo⟩, mc, ns1 g1, g2⟩
  have ev : Env0 P w K mg (hidT s1.heap H) callerA [] s1 H := by
    refine ⟨rfl, md, fun b o e => of_hidT e, Nat.le_of_eq (hidT_size _ _), trivial, fun b hb => ?_, hok, .of_eq hgen⟩
    cases (show b ∈ ([] : List Addr) from hb)
  have rel0 : Rel K ⟨[], []⟩ [] H := ⟨List.nodup_nil, rfl, fun n c a e => by simp at e, (fun a h => nomatch h), (fun a h => nomatch h)⟩
  have want : spD mg K 1 S [V.ref a] H (fun v _ => v = .bl true) fun _ _ _ => False := by
    refine ⟨rfl, ⟨[], []⟩, [], [.fz (ns.map D.int)], _, _, rel0, .cons (.fz fz (rds_fz ns)) .nil, hS, fun ρ' M' H' d v _ _ rr _ q => ?_, fun ρ' M' H' x cls dd _ _ _ z => z⟩
    subst q
    exact rr.1.toBl
  refine codeAny_mono ((F _ kb (ns1 hmg) sysb).run callerA [] s1 H ⟨[.ref a], []⟩ [.ref a] [V.ref a] _ _ rfl room ev (hbind s1 (.ref a)) (.cons rfl .nil) want) fun r s' h => ?_
  match r, h with
  | .error e, h =>
    obtain ⟨_, _, _, _, _, _, _, _, _, _, _, _, no⟩ := h
    exact no.elim
  | .ok (.ret u), h =>
    obtain ⟨v, H', os, bare, un, hok', rv, q⟩ := h
    have q' : v = .bl true := q
    subst q'
    cases (show u = Value.bool true from rv)
    refine ⟨rfl, OldK.of_keep fun b o e => ?_, os, bare⟩
    by_cases z : H b = none
    · exact un.keep b o e z (fun z => nomatch (show b ∈ ([] : List Addr) from z)) (fun z => nomatch (show b ∈ ([] : List Addr) from z))
    · rcases only b with z1 | ⟨ob, xs, z1⟩
      · exact absurd z1 z
      · obtain ⟨g1, _⟩ := hok b _ z1
        obtain ⟨g2, _⟩ := hok' b _ (un.frzs b ob _ z1)
        rw [e] at g1
        cases g1
        exact g2
theorem lay_call {P : Program} {w : World} {K : PySem.W.Frag} {mg mb : Str → Option Value} {k : Nat} {fa a : Addr} {fd : FuncData} {x : Str} {S : SD} {s1 : Shared} {us : List Value} {ns : List Int}
    (kin : K.In s1.heap) (hmg : s1.heap.Ns mainGlobals mg) (hmb : s1.heap.Ns builtinsNs mb) (hbo : ∀ x : Str, x ≠ "__name__" → mb x = bootBuiltins x) (hnl : s1.heap.NoLimit) (hsys : ∃ m, s1.heap.Ns sysModules m) (hgen : s1.gens = #[])
    (hobj : s1.heap.get? a = some { cls := .type "list", data := .seq us.toArray }) (hi : IntsAre us ns) (hl : ns.length ≤ sizeLine) (room : Room k callerA)
    (F : ∀ base : Heap, K.In base → base.Ns mainGlobals mg → (∃ o, base.get? sysModules = some o) → FnG P w K mg base k fa fd [x] S) (hbind : ∀ (s : Shared) (u : Value), BindsTo s fd ⟨[u], []⟩ [(x, u)])
    (hS : S [.fz (ns.map D.int)] [] (fun _ _ => False) fun d _ => d = .bl true) :
    codeAny (model P w) callerA (.call (.ref fa) ⟨[.ref a], []⟩) (fun r s' => r = .ok (.ret (.bool true)) ∧ OldK s1.heap s'.heap ∧ s'.os = s1.os ∧ AllBare s'.gens) s1 := by
  have go := lay_core kin hmg hmb hbo hnl hsys hgen hobj room F hbind hS
  have vals := vals_ints hi
  by_cases hk : K.lookup a = none
  · let so : Obj := { cls := .type "list", data := .seq us.toArray }
    refine go (fun b => if b = a then some (.frz so (.lst (ns.map V.int))) else none) (fun b => ?_) (.inl ⟨so, if_pos rfl⟩) (fun b u z => ?_) (fun b z => ?_) fun _ => hk
    · by_cases e : b = a
      · exact .inr ⟨so, _, if_pos e⟩
      · exact .inl (if_neg e)
    · by_cases e : b = a
      · subst e
        cases (if_pos rfl).symm.trans z
        exact ⟨hobj, by rw [List.length_map]; exact hl, us, _, vals, hobj⟩
      · cases (if_neg e).symm.trans z
    · by_cases e : b = a
      · exact e
      · exact absurd (if_neg e) z
  · obtain ⟨o, ho⟩ := Option.ne_none_iff_exists'.mp hk
    have e := kin a o ho
    rw [hobj] at e
    cases e
    refine go (fun _ => none) (fun _ => .inl rfl) (.inr ⟨_, us.toArray, _, ho, rfl, rfl, rfl, ?_, by simpa using vals⟩) (fun b u z => ?_) (fun b z => absurd rfl z) fun z => absurd rfl z
    · have := hi.length; rw [List.size_toArray]; omega
    · cases (show (none : Option HO) = some u from z)
/-- THE END: what k_head leaves, from the law's promise -/
theorem walk_lay {l : PySem.W.OpenLaw} {n k : Nat} {q : Program} {loose : List Str} {XP : (Str → Option Value) → Heap → Prop} {YP : World → Heap → Prop} {d : DefRec} {K : Params → PySem.W.Frag} {S : SD} {x : Str}
    (hn : l.most = some n) (hn2 : n ≤ sizeLine) (hdf : d.params.defaults = []) (room : Room k callerA) (himp : importsNone q = true) (hY : ∀ (w : World) (h : Heap), YP w h → (K w.params).In h)
    (F : ∀ (w : World) (mg : Str → Option Value) (fa : Addr) (h : Heap), (K w.params).In h → h.Ns mainGlobals mg → mg d.name = some (.ref fa) → ∃ fd : FuncData, (∀ (s : Shared) (u : Value), BindsTo s fd ⟨[u], []⟩ [(x, u)]) ∧
      ∀ base : Heap, (K w.params).In base → base.Ns mainGlobals mg → (∃ o, base.get? sysModules = some o) → FnG l.prog w (K w.params) mg base k fa fd [x] S)
    (hS : ∀ ns : List Int, ns.length ≤ n → (∀ i ∈ ns, Builtin.Int.intBits i ≤ 1048576) → S [.fz (ns.map D.int)] [] (fun _ _ => False) fun d _ => d = .bl true) :
    PySem.W.WalkO q loose XP YP l.row.toRowW d [] (fun f vs => PySem.call f vs) := by
  refine Att.attach_callB hn hdf fun w s0 s1 mg mb fa o pm cd doc a us ns G Y ho hd hcd hmg hobj hints hlen hbits hgen => ?_
  have kin := hY w _ Y
  obtain ⟨fd, hb, hF⟩ := F w mg fa _ kin G.T.g hmg
  have seer := G.T.seer himp
  obtain ⟨mm, hm, _⟩ := seer.mods
  exact lay_call kin G.T.g G.T.b G.T.builtins G.T.nolimit ⟨mm, hm⟩ hgen hobj hints (Nat.le_trans hlen hn2) room hF hb (hS ns hlen hbits)
end Lay

set_option Elab.async false
set_option maxRecDepth 100000
set_option linter.all false
/-! Lay, part U: a program's defs, one after another. -/
namespace Lay
open PySem L2 RZ PyProof.Rows

/-- what the top has written of a def -/
def Here (K : PySem.W.Frag) (x : Str) (st : Stmt) : Prop := ∃ f fd, PySem.W.nsIn K mainGlobals x = some (some (.ref f)) ∧ L2.Fun K x x st f fd
theorem here_mk {K : PySem.W.Frag} {x : Str} {st : Stmt} {f : Addr} {oc : Value} {od an : Option Addr} {osl : Array (Option Value)} {kV doc pm cdv ct : Value} (a : PySem.W.nsIn K mainGlobals x = some (some (.ref f)))
    (l : K.lookup f = some ⟨oc, od, .func (PySem.W.fnOf x x (defArgs st) (defBody st) (defScope st) .none kV doc pm an cdv ct), osl⟩) (c : PySem.W.codeIn K cdv x = true) (k : PySem.W.keepIn K (.ref f) = true) : Here K x st := ⟨f, _, a, fun_mk l c k⟩
/-- an error's class -/
def HX (P : Program) (K : PySem.W.Frag) (C : Addr) (f : Option Str) : Prop := Xc P K C f ∧ ExcC K C ∧ Tgt K C
theorem oex_mk {K : PySem.W.Frag} {C N : Addr} {nm q : Str} {bs bm : List Value} {sn : List Str} {sub : List Value} {ab : Bool} {col : Option Bool} {dd : Option Addr} {k0 k1 k2 k3 k5 : Option Value}
    (l : K.lookup C = some (excClassObj nm q C N bs bm true sn sub ab col dd k0 k1 k2 k3 k5 "ValueError.__new__")) (v : PySem.HandSPX.refsVE bm = true) (sa : PySem.W.findIn K (.ref C) "__setattr__" = some (some (.builtin "object.__setattr__"))) (b : PySem.W.subIn K (.ref C) (.type "BaseException") = some true)
    (t : PySem.W.typeIn K (.ref C) = some (.type "type")) (k : PySem.W.keepIn K (.ref C) = true) : OexC K C := ⟨⟨nm, q, N, bs, bm, sn, sub, ab, col, dd, k0, k1, k2, k3, k5, l, v⟩, sa, b, t, k⟩
theorem exc_mk {K : PySem.W.Frag} {C : Addr} (g : PySem.W.findIn K (.ref C) "__getattribute__" = some (some (.builtin "BaseException.__getattribute__"))) (h : PySem.W.findIn K (.ref C) "__getattr__" = some none) (b : PySem.W.subIn K (.ref C) (.type "BaseException") = some true)
    (d : PySem.W.hasDictIn K C = true) (c : PySem.W.findIn K (.ref C) "__class__" = some (some (.builtin "object.__class__"))) (s : PySem.W.specialIn K (.builtin "object.__class__") "__get__" = some (some (.builtin "getset_descriptor.__get__"))) (w : PySem.W.takesIn K (.builtin "object.__class__") = some true)
    (o : PySem.W.mroIn K C (.type "object") = some true) : ExcC K C := ⟨g, h, b, d, c, s, w, o⟩
abbrev selfArgs (pa : Pos) : Arguments := { posonlyargs := [], args := [⟨"self", none, pa⟩], vararg := none, kwonlyargs := [], kw_defaults := [], kwarg := none, defaults := [] }
abbrev selfArg1 (f : Str) (pa pb : Pos) : Arguments := { posonlyargs := [], args := [⟨"self", none, pa⟩, ⟨f, none, pb⟩], vararg := none, kwonlyargs := [], kw_defaults := [], kwarg := none, defaults := [] }
def scopeB (scope : Scope) : Bool := decide (scope.kind = .function) && !scope.isCoroutine && !scope.isGenerator && scope.names.all (fun x => decide (x.2 ≠ .cell)) && decide (scope.names.lookup ("super" : Str) = some .globalImplicit) && decide (scope.names.lookup ("__class__" : Str) = some .free) && decide (scope.names.lookup ("self" : Str) = some .local)
theorem scopeB_ok {scope : Scope} (h : scopeB scope = true) : scope.kind = .function ∧ scope.isCoroutine = false ∧ scope.isGenerator = false ∧ (∀ x ∈ scope.names, x.2 ≠ .cell) ∧ scope.names.lookup ("super" : Str) = some .globalImplicit ∧ scope.names.lookup ("__class__" : Str) = some .free ∧ scope.names.lookup ("self" : Str) = some .local := by
  unfold scopeB at h
  simp only [Bool.and_eq_true, decide_eq_true_eq, Bool.not_eq_true', List.all_eq_true] at h
  obtain ⟨⟨⟨⟨⟨⟨h1, h2⟩, h3⟩, h4⟩, h5⟩, h6⟩, h7⟩ := h
  exact ⟨h1, h2, h3, h4, h5, h6, h7⟩
section
variable {P : Program} {K : PySem.W.Frag} {C fI cc cda : Addr} {oc : Value} {od : Option Addr} {osl : Array (Option Value)} {q msg f : Str} {scope : Scope} {kV doc pm ct ccl cl : Value} {an cdd cld : Option Addr} {vs : Array Value} {ccs csl : Array (Option Value)} {file : Str} {tf : Tok} {k : Nat} {p0 p1 p2 p3 p4 p5 p6 p7 p8 p9 pa pb : Pos}
theorem hx_mk0 (ox : OexC K C) (xc : ExcC K C) (tg : PySem.W.typeIn K (.ref C) = some (.type "type")) (i : PySem.W.findIn K (.ref C) "__init__" = some (some (.ref fI))) (ti : PySem.W.typeIn K (.ref fI) = some (.type "function"))
    (l : K.lookup fI = some ⟨oc, od, .func (PySem.W.fnX "__init__" q (selfArgs pa) [supSt msg k p0 p1 p2 p3 p4 p5] scope [("__class__", cc)] .none kV doc pm an (.ref cda) ct), osl⟩) (c : PySem.W.codeIn K (.ref cda) q = true)
    (lc : K.lookup cda = some ⟨ccl, cdd, .fields vs, ccs⟩) (v : vs[2]? = some (.str file tf)) (fl : ((P.main.file : Str) == file) = true) (tp : (P.main.scope.names.lookup ("super" : Str)).isSome = false) (ce : K.lookup cc = some ⟨cl, cld, .cell (some (.ref C)), csl⟩)
    (sc : scopeB scope = true) (hl : (p2.endLine == p4.line) = true) (sup : PySem.W.ks_superIn K C C "__init__" = some (some (.builtin "ValueError.__init__"))) (ve : PySem.W.subIn K (.ref C) (.type "ValueError") = some true) (se : PySem.W.mroIn K C (.ref C) = some true) (op : PySem.W.nsIn K cStatics "thirdparty.any" = some none) : HX P K C none := by
  obtain ⟨s1, s2, s3, s4, s5, s6, s7⟩ := scopeB_ok sc
  exact ⟨⟨ox, ⟨fI, cc, cda, oc, od, osl, q, msg, _, _, scope, kV, doc, pm, ct, ccl, cl, an, cdd, cld, vs, ccs, csl, file, tf, k, p0, p1, p2, p3, p4, p5, p0, p1, p2, p3, pa, pa, i, ti, l, c, lc, v, fl, tp, ce, s1, s2, s3, s4, s5, s6, s7, hl, rfl, rfl, fun u => rfl⟩, sup, ve, se, (fun _ z => nomatch z), op⟩, xc, ⟨xc.hs, xc.hd, tg⟩⟩
theorem hx_mk1 (ox : OexC K C) (xc : ExcC K C) (tg : PySem.W.typeIn K (.ref C) = some (.type "type")) (i : PySem.W.findIn K (.ref C) "__init__" = some (some (.ref fI))) (ti : PySem.W.typeIn K (.ref fI) = some (.type "function"))
    (l : K.lookup fI = some ⟨oc, od, .func (PySem.W.fnX "__init__" q (selfArg1 f pa pb) [supSt msg k p0 p1 p2 p3 p4 p5, fldSt f p6 p7 p8 p9] scope [("__class__", cc)] .none kV doc pm an (.ref cda) ct), osl⟩) (c : PySem.W.codeIn K (.ref cda) q = true)
    (lc : K.lookup cda = some ⟨ccl, cdd, .fields vs, ccs⟩) (v : vs[2]? = some (.str file tf)) (fl : ((P.main.file : Str) == file) = true) (tp : (P.main.scope.names.lookup ("super" : Str)).isSome = false) (ce : K.lookup cc = some ⟨cl, cld, .cell (some (.ref C)), csl⟩)
    (sc : scopeB scope = true) (hl : (p2.endLine == p4.line) = true) (sup : PySem.W.ks_superIn K C C "__init__" = some (some (.builtin "ValueError.__init__"))) (ve : PySem.W.subIn K (.ref C) (.type "ValueError") = some true) (se : PySem.W.mroIn K C (.ref C) = some true) (op : PySem.W.nsIn K cStatics "thirdparty.any" = some none)
    (sf : scope.names.lookup f = some .local) (fd : (f == ("__debug__" : Str)) = false) (fs : ("self" : Str) ≠ f) (nf : PySem.W.findIn K (.ref C) f = some none) (bi : ∀ u v : Value, bindArgs (PySem.W.fnX "__init__" q (selfArg1 f pa pb) [supSt msg k p0 p1 p2 p3 p4 p5, fldSt f p6 p7 p8 p9] scope [("__class__", cc)] .none kV doc pm an (.ref cda) ct) ⟨[u, v], []⟩ = pure [(("self" : Str), u), (f, v)]) : HX P K C (some f) := by
  obtain ⟨s1, s2, s3, s4, s5, s6, s7⟩ := scopeB_ok sc
  exact ⟨⟨ox, ⟨fI, cc, cda, oc, od, osl, q, msg, _, _, scope, kV, doc, pm, ct, ccl, cl, an, cdd, cld, vs, ccs, csl, file, tf, k, p0, p1, p2, p3, p4, p5, p6, p7, p8, p9, pa, pb, i, ti, l, c, lc, v, fl, tp, ce, s1, s2, s3, s4, s5, s6, s7, hl, rfl, rfl, sf, fd, fs, nf, bi⟩, sup, ve, se, (fun _ z => by cases z; exact nf), op⟩, xc, ⟨xc.hs, xc.hd, tg⟩⟩
end
/-- a def that may be called -/
structure Cal (P : Program) (w : World) (K : PySem.W.Frag) (mg : Str → Option Value) (base : Heap) (k : Nat) (x : Str) (g : Sig) (S : SD) : Prop where
  ex : ∃ (f : Addr) (fd : FuncData), FnG P w K mg base k f fd g.ps S ∧ mg x = some (.ref f) ∧ PySem.W.keepIn K (.ref f) = true ∧
    (∀ (s : Shared) (us : List Value), us.length = g.ps.length → BindsTo s fd ⟨us, []⟩ (g.ps.zip us)) ∧
    (∀ n ks pm, (n, ks, pm) ∈ g.kw → pm.length = g.ps.length ∧ (∀ i ∈ pm, i < n + ks.length) ∧ ∀ (s : Shared) (us ws : List Value), us.length = n → ws.length = ks.length → BindsTo s fd ⟨us, ks.zip ws⟩ (g.ps.zip (pm.filterMap ((us ++ ws)[·]?))))
def Tab (P : Program) (w : World) (K : PySem.W.Frag) (mg : Str → Option Value) (base : Heap) (Γ : Gam) (k : Nat) (fs : List (Str × Sig)) : Prop := ∀ x g, (x, g) ∈ fs → Cal P w K mg base k x g (Γ x)
/-- how its arguments bind, by the text -/
def ArgsOk (x : Str) (st : Stmt) (g : Sig) : Prop :=
  (∀ (kV doc pm : Value) (an : Option Addr) (cdv ct : Value) (us : List Value), us.length = g.ps.length → bindArgs (PySem.W.fnOf x x (defArgs st) (defBody st) (defScope st) .none kV doc pm an cdv ct) ⟨us, []⟩ = pure (g.ps.zip us)) ∧
  (∀ n ks pm, (n, ks, pm) ∈ g.kw → pm.length = g.ps.length ∧ (∀ i ∈ pm, i < n + ks.length) ∧ ∀ (kV doc pmv : Value) (an : Option Addr) (cdv ct : Value) (us ws : List Value), us.length = n → ws.length = ks.length →
    bindArgs (PySem.W.fnOf x x (defArgs st) (defBody st) (defScope st) .none kV doc pmv an cdv ct) ⟨us, ks.zip ws⟩ = pure (g.ps.zip (pm.filterMap ((us ++ ws)[·]?))))
def fnsB (N ps : List Str) (sc : Scope) : Bool :=
  decide (sc.kind = .function) && !sc.isCoroutine && !sc.isGenerator && decide N.Nodup && decide (N.take ps.length = ps) && ps.all (fun x => decide (sc.names.lookup x = some .local) || decide (sc.names.lookup x = some .cell)) && sc.names.all fun y => decide (y.2 ≠ .free)
theorem fns_by {N ps : List Str} {sc : Scope} (h : fnsB N ps sc = true) : FnScope N ps sc := by
  unfold fnsB at h
  simp only [Bool.and_eq_true, decide_eq_true_eq, Bool.not_eq_true', List.all_eq_true, Bool.or_eq_true] at h
  obtain ⟨⟨⟨⟨⟨⟨h1, h2⟩, h3⟩, h4⟩, h5⟩, h6⟩, h7⟩ := h
  exact ⟨h1, h2, h3, h4, h5, h6, h7⟩
section
variable {P : Program} {w : World} {K : PySem.W.Frag} {mg : Str → Option Value} {base : Heap} {Γ : Gam} {k n : Nat} {x : Str} {st : Stmt} {g : Sig} {c : CC} {ir : Ss}
theorem Tab.nil : Tab P w K mg base Γ k [] := fun _ _ h => nomatch h
theorem Tab.mono {j : Nat} {fs : List (Str × Sig)} (T : Tab P w K mg base Γ j fs) (h : j ≤ k) : Tab P w K mg base Γ k fs := fun x g e => by
  obtain ⟨f, fd, F, q⟩ := (T x g e).ex
  exact ⟨f, fd, F.mono h, q⟩
theorem Tab.tail {p : Str × Sig} {fs : List (Str × Sig)} (T : Tab P w K mg base Γ k (p :: fs)) : Tab P w K mg base Γ k fs := fun x g e => T x g (List.mem_cons_of_mem _ e)
/-- what the module's own names hold -/
def Glo (K : PySem.W.Frag) (mg : Str → Option Value) (gs : List (Str × D)) : Prop := ∀ x d, (x, d) ∈ gs → ∃ v u, mg x = some u ∧ RelV v u ∧ ∀ ρ H, RD ρ K H d v
theorem Glo.nil : Glo K mg [] := fun _ _ h => nomatch h
theorem step (T : Tab P w K mg base Γ k c.fs) (hmg : ∀ y v, PySem.W.nsIn K mainGlobals y = some (some v) → mg y = some v) (hbt : ∀ y ∈ bNames, mg y = none) (hsys : ∃ o, base.get? sysModules = some o) (hgl : Glo K mg c.gs) (hh : Here K x st)
    (esc : c.sc = defScope st) (efc : c.fc = (defScope st).names) (hfs : fnsB c.N g.ps (defScope st) = true) (ha : ArgsOk x st g) (hk1 : 1 ≤ k) (hex : Exs P K mg) (hxp : ∀ x ∈ c.xs, mg x ≠ none) (hcomp : compSs n c (defBody st) = some ir)
    (hspec : ∀ ds M X Q, ds.length = g.ps.length → Γ x ds M X Q → wss Γ ir (bodyPo M X Q) (startD c.N ds) M) : Tab P w K mg base Γ (k + 1) ((x, g) :: c.fs) := by
  intro y g' hy
  rcases List.mem_cons.mp hy with e | e
  · cases e
    obtain ⟨f, fd, hn, F⟩ := hh
    obtain ⟨oc, od, kV, doc, pm, an, cdv, ct, osl, rfl, lk, hcd⟩ := F.ex
    refine ⟨f, _, g_of lk hcd (fns_by hfs) esc efc hbt hsys (fun X e1 e2 e3 e4 e5 x' g' hx => ?_) hgl hk1 hex hxp hcomp hspec, hmg _ _ hn, F.kp, fun s us hl => .of_eq (ha.1 kV doc pm an cdv ct us hl), fun n ks p hp => ?_⟩
    · subst e1 e2 e3 e4 e5
      exact ⟨(T x' g' hx).ex⟩
    · obtain ⟨h1, h2, h3⟩ := ha.2 n ks p hp
      exact ⟨h1, h2, fun s us ws l1 l2 => .of_eq (h3 kV doc pm an cdv ct us ws l1 l2)⟩
  · exact (T.mono (Nat.le_succ k)) y g' e
/-- the law's own def -/
theorem Tab.law {fs : List (Str × Sig)} {x : Str} {g : Sig} {p : Str} {fa : Addr} (T : Tab P w K mg base Γ k ((x, g) :: fs)) (hfa : mg x = some (.ref fa)) (hp : g.ps = [p]) : ∃ fd, FnG P w K mg base k fa fd [p] (Γ x) := by
  obtain ⟨f, fd, F, hm, _⟩ := (T x g List.mem_cons_self).ex
  rw [hfa] at hm
  cases hm
  rw [hp] at F
  exact ⟨fd, F⟩
/-- the law's own def, its base left open -/
theorem law_fn {p : Str} {fa : Addr} (hk1 : 1 ≤ k) (hex : Exs P K mg) (hxp : ∀ x ∈ c.xs, mg x ≠ none) (hfa : mg x = some (.ref fa)) (hmg : ∀ y v, PySem.W.nsIn K mainGlobals y = some (some v) → mg y = some v) (hbt : ∀ y ∈ bNames, mg y = none) (hgl : Glo K mg c.gs) (hh : Here K x st) (hp : g.ps = [p])
    (esc : c.sc = defScope st) (efc : c.fc = (defScope st).names) (hfs : fnsB c.N g.ps (defScope st) = true) (ha : ArgsOk x st g) (hcomp : compSs n c (defBody st) = some ir)
    (hspec : ∀ ds M X Q, ds.length = g.ps.length → Γ x ds M X Q → wss Γ ir (bodyPo M X Q) (startD c.N ds) M) :
    ∃ fd : FuncData, (∀ (s : Shared) (u : Value), BindsTo s fd ⟨[u], []⟩ [(p, u)]) ∧ ∀ base : Heap, Tab P w K mg base Γ k c.fs → (∃ o, base.get? sysModules = some o) → FnG P w K mg base (k + 1) fa fd [p] (Γ x) := by
  obtain ⟨f, fd, hn, F⟩ := hh
  have e := hmg _ _ hn
  rw [hfa] at e
  cases e
  obtain ⟨oc, od, kV, doc, pm, an, cdv, ct, osl, rfl, lk, hcd⟩ := F.ex
  refine ⟨PySem.W.fnOf x x (defArgs st) (defBody st) (defScope st) .none kV doc pm an cdv ct, fun s u => .of_eq ?_, fun base T hsys => ?_⟩
  · have := ha.1 kV doc pm an cdv ct [u] (by rw [hp]; rfl)
    rw [hp] at this
    exact this
  · have hcal : ∀ X : Cx, X.prog = P → X.w = w → X.K = K → X.mg = mg → X.base = base → ∀ x g, (x, g) ∈ c.fs → Callee X k x g (Γ x) := by
      intro X e1 e2 e3 e4 e5 x' g' hx
      subst e1 e2 e3 e4 e5
      exact ⟨(T x' g' hx).ex⟩
    have := g_of (k := k) lk hcd (fns_by hfs) esc efc hbt hsys hcal hgl hk1 hex hxp hcomp hspec
    rw [hp] at this
    exact this
end
end Lay

set_option Elab.async false
set_option maxRecDepth 100000
set_option linter.all false
/-! Lay, part V: what helps where a def's wish is shown. -/
namespace Lay
open PySem L2 RZ PyProof.Rows

/-- a value without cells has its type -/
def tyD : D → Option String
  | .non => some "NoneType"
  | .bl _ => some "bool"
  | .int _ => some "int"
  | .str _ => some "str"
  | .tup _ => some "tuple"
  | .lst _ => some "list"
  | .fz _ => some "list"
  | .dct _ => some "dict"
  | _ => none
theorem tyD_ok {d : D} {M : Mem} {t : String} (h : tyD d = some t) : tyName d M = some t := by cases d <;> first | exact h | cases h
theorem tyD_shr {d : D} {t : String} (h : tyD d = some t) : shr d = d := by cases d <;> first | rfl | cases h
theorem shr_non : shr .non = .non := rfl
theorem shr_bl {b : Bool} : shr (.bl b) = .bl b := rfl
theorem shr_int {b : Int} : shr (.int b) = .int b := rfl
theorem shr_str {b : Str} : shr (.str b) = .str b := rfl
theorem shr_ty {b : String} : shr (.ty b) = .ty b := rfl
theorem shr_tup {b : List D} : shr (.tup b) = .tup b := rfl
theorem shr_lst {b : List D} : shr (.lst b) = .lst b := rfl
theorem shr_fz {b : List D} : shr (.fz b) = .fz b := rfl
theorem shr_dct {b : List (Key × D)} : shr (.dct b) = .dct b := rfl
theorem shr_loc {b : Nat} : shr (.loc b) = .loc b := rfl
theorem shr_fr {b : D} : shr (.fr b) = b := rfl
theorem isi_iff {d : D} {M : Mem} {t n : String} {Q : Kd} (h : tyD d = some t) (hn : n ∈ ["int", "bool", "str", "tuple", "list", "dict"]) : opB .isinst [d, .ty n] M Q ↔ Q (.bl (isTy t n)) M := by
  constructor
  · rintro ⟨e, m, u, e1, e2, _, q⟩
    cases e1
    rw [tyD_ok h] at e2
    cases e2
    exact q
  · intro q
    exact ⟨d, n, t, rfl, tyD_ok h, hn, q⟩
theorem isi_ok {d : D} {M : Mem} {t n : String} {Q : Kd} (h : tyD d = some t) (hn : n ∈ ["int", "bool", "str", "tuple", "list", "dict"]) (q : Q (.bl (isTy t n)) M) : opB .isinst [d, .ty n] M Q := ⟨d, n, t, rfl, tyD_ok h, hn, q⟩
section
variable {M : Mem} {Q : Kd} {X : XP}
theorem kept_self : Kept M M M := ⟨Nat.le_refl _, fun n c e => .inl e⟩
theorem kept_app {ex : Mem} : Kept M M (M ++ ex) := ⟨Nat.le_refl _, fun n c e => .inl e⟩
/-- handed back as it is -/
theorem ret_same {d : D} (h : noLoc d = true) (q : Q d M) : Ret M Q d M := ⟨M, [], by simp, kept_self, .inl ⟨d, Fz.self d h, q⟩⟩
theorem ret_drop {d : D} {ex : Mem} (h : noLoc d = true) (q : Q d M) : Ret M Q d (M ++ ex) := ⟨M, ex, rfl, kept_app, .inl ⟨d, Fz.self d h, q⟩⟩
theorem ret_fr {e : D} {ex : Mem} (h : noLoc e = true) (q : Q (.fr e) M) : Ret M Q (.fr e) (M ++ ex) := ⟨M, ex, rfl, kept_app, .inr (.inl ⟨e, e, rfl, Fz.self e h, q⟩)⟩
end

/-! ### plain data -/
mutual
def toPy : D → PyData
  | .non => .none
  | .bl b => .bool b
  | .int i => .int i
  | .str x => .str x
  | .tup xs => .tuple (toPys xs)
  | .lst xs => .list (toPys xs)
  | .dct ks => .dict (toPyk ks)
  | _ => .none
def toPys : List D → List PyData
  | [] => []
  | x :: xs => toPy x :: toPys xs
def toPyk : List (Key × D) → List (PyData × PyData)
  | [] => []
  | (k, x) :: xs => (keyPy k, toPy x) :: toPyk xs
end
mutual
def okD : D → Bool
  | .non => true
  | .bl _ => true
  | .int _ => true
  | .str _ => true
  | .tup xs => okDs xs
  | .lst xs => okDs xs
  | .dct ks => okDk ks
  | _ => false
def okDs : List D → Bool
  | [] => true
  | x :: xs => okD x && okDs xs
def okDk : List (Key × D) → Bool
  | [] => true
  | (_, x) :: xs => okD x && okDk xs
end
mutual
theorem py_of {M : Mem} : ∀ (d : D), okD d = true → Py M d (toPy d)
  | .non, _ => .non
  | .bl _, _ => .bl _
  | .int _, _ => .int _
  | .str _, _ => .str _
  | .tup xs, h => .tup (pys_of xs (by simpa [okD] using h))
  | .lst xs, h => .lst (pys_of xs (by simpa [okD] using h))
  | .dct xs, h => .dct (pyk_of xs (by simpa [okD] using h))
  | .fz _, h => by simp [okD] at h
  | .loc _, h => by simp [okD] at h
  | .ty _, h => by simp [okD] at h
  | .fr _, h => by simp [okD] at h
theorem pys_of {M : Mem} : ∀ (d : List D), okDs d = true → Pys M d (toPys d)
  | [], _ => .nil
  | x :: xs, h => by
    simp only [okDs, Bool.and_eq_true] at h
    exact .cons (py_of x h.1) (pys_of xs h.2)
theorem pyk_of {M : Mem} : ∀ (d : List (Key × D)), okDk d = true → Pyk M d (toPyk d)
  | [], _ => .nil
  | (k, x) :: xs, h => by
    simp only [okDk, Bool.and_eq_true] at h
    exact .cons (py_of x h.1) (pyk_of xs h.2)
end
mutual
theorem noLoc_of : ∀ (d : D), okD d = true → noLoc d = true
  | .non, _ => rfl
  | .bl _, _ => rfl
  | .int _, _ => rfl
  | .str _, _ => rfl
  | .tup xs, h => by simp only [noLoc]; exact noLocs_of xs (by simpa [okD] using h)
  | .lst xs, h => by simp only [noLoc]; exact noLocs_of xs (by simpa [okD] using h)
  | .dct xs, h => by simp only [noLoc]; exact noLock_of xs (by simpa [okD] using h)
  | .fz _, h => by simp [okD] at h
  | .loc _, h => by simp [okD] at h
  | .ty _, h => by simp [okD] at h
  | .fr _, h => by simp [okD] at h
theorem noLocs_of : ∀ (d : List D), okDs d = true → noLocs d = true
  | [], _ => rfl
  | x :: xs, h => by
    simp only [okDs, Bool.and_eq_true] at h
    simp only [noLocs, Bool.and_eq_true]
    exact ⟨noLoc_of x h.1, noLocs_of xs h.2⟩
theorem noLock_of : ∀ (d : List (Key × D)), okDk d = true → noLock d = true
  | [], _ => rfl
  | (k, x) :: xs, h => by
    simp only [okDk, Bool.and_eq_true] at h
    simp only [noLock, Bool.and_eq_true]
    exact ⟨noLoc_of x h.1, noLock_of xs h.2⟩
end
theorem okD_ty {d : D} (h : okD d = true) : ∃ t, tyD d = some t := by cases d <;> first | exact ⟨_, rfl⟩ | (simp [okD] at h)
theorem okD_shr {d : D} (h : okD d = true) : shr d = d := by cases d <;> first | rfl | (simp [okD] at h)
theorem okDs_iff : ∀ {xs : List D}, okDs xs = true ↔ ∀ x ∈ xs, okD x = true
  | [] => by simp [okDs]
  | x :: xs => by simp [okDs, okDs_iff (xs := xs)]
/-- small plain data: the weight, the depth -/
structure Sm (w dp : Nat) (d : D) : Prop where
  ok : okD d = true
  show_ : (toPy d).showable = true
  deep : (toPy d).depth ≤ dp
  leaf : (toPy d).leavesShort 1000 = true
  wt : (toPy d).weight ≤ w
structure Sms (w dp : Nat) (d : List D) : Prop where
  ok : okDs d = true
  show_ : PyData.showableAll (toPys d) = true
  deep : PyData.depthAll (toPys d) ≤ dp
  leaf : PyData.leavesShortAll 1000 (toPys d) = true
  wt : PyData.weightAll (toPys d) ≤ w
def rp (d : D) : Str := (toPy d).shown
section
variable {w v dp : Nat} {d : D} {ds es : List D}
theorem Sm.fit (h : Sm w dp d) (hw : w ≤ 16000) (hd : dp ≤ 60) : Fit (toPy d) := by
  refine ⟨h.show_, Nat.le_trans h.deep hd, ?_⟩
  have := PyData.shown_le 1000 (by decide) _ h.leaf
  have e : sizeLine = 16777216 := sizeLine_eq
  have := h.wt
  rw [e]
  have hm : (1000 + 2) * (toPy d).weight ≤ 1002 * 16000 := Nat.mul_le_mul (Nat.le_refl _) (by omega)
  omega
theorem Sm.mono {w' dp' : Nat} (h : Sm w dp d) (hw : w ≤ w') (hd : dp ≤ dp') : Sm w' dp' d := ⟨h.ok, h.show_, Nat.le_trans h.deep hd, h.leaf, Nat.le_trans h.wt hw⟩
theorem Sms.mono {w' dp' : Nat} (h : Sms w dp ds) (hw : w ≤ w') (hd : dp ≤ dp') : Sms w' dp' ds := ⟨h.ok, h.show_, Nat.le_trans h.deep hd, h.leaf, Nat.le_trans h.wt hw⟩
theorem Sm.repr {M : Mem} {Q : Kd} (h : Sm w dp d) (hw : w ≤ 16000) (hd : dp ≤ 60) (q : Q (.str (rp d)) M) : opB .repr [d] M Q := ⟨d, toPy d, rfl, py_of d h.ok, h.fit hw hd, q⟩
theorem Sm.non : Sm 0 0 .non := ⟨rfl, rfl, Nat.le_refl _, rfl, Nat.le_refl _⟩
theorem Sm.bl {b : Bool} : Sm 0 0 (.bl b) := ⟨rfl, rfl, Nat.le_refl _, rfl, Nat.le_refl _⟩
theorem Sm.int {i : Int} (h : i.natAbs < 10 ^ 12) : Sm 40 0 (.int i) := by
  have hl : i.natAbs.log2 < 40 := by
    by_cases z : i.natAbs = 0
    · rw [z]; decide
    · exact (Nat.log2_lt z).mpr (Nat.lt_of_lt_of_le h (by decide))
  refine ⟨rfl, ?_, Nat.le_refl _, ?_, ?_⟩
  · show decide (i.natAbs.log2 < 1920) = true
    exact decide_eq_true (by omega)
  · show decide ((PyData.shown (.int i)).length ≤ 1000) = true
    exact decide_eq_true (Nat.le_trans (PyData.shown_int_le h) (by decide))
  · show (if i == 0 then 0 else i.natAbs.log2 + 1) ≤ 40
    split <;> omega
theorem Sms.nil : Sms 0 dp [] := ⟨rfl, rfl, Nat.zero_le _, rfl, Nat.le_refl _⟩
theorem Sms.cons (h : Sm w dp d) (q : Sms v dp ds) : Sms (w + 1 + v) dp (d :: ds) := by
  refine ⟨?_, ?_, ?_, ?_, ?_⟩
  · simp only [okDs, Bool.and_eq_true]; exact ⟨h.ok, q.ok⟩
  · simp only [toPys, PyData.showableAll, Bool.and_eq_true]; exact ⟨h.show_, q.show_⟩
  · simp only [toPys, PyData.depthAll]; exact Nat.max_le.mpr ⟨h.deep, q.deep⟩
  · simp only [toPys, PyData.leavesShortAll, Bool.and_eq_true]; exact ⟨h.leaf, q.leaf⟩
  · simp only [toPys, PyData.weightAll]; have := h.wt; have := q.wt; omega
theorem Sms.all : ∀ {ds : List D}, (∀ x ∈ ds, Sm w dp x) → Sms ((w + 1) * ds.length) dp ds
  | [], _ => by simpa using Sms.nil
  | d :: ds, h => by
    have := Sms.cons (h d List.mem_cons_self) (Sms.all fun x hx => h x (List.mem_cons_of_mem _ hx))
    exact this.mono (by rw [List.length_cons, Nat.mul_succ]; omega) (Nat.le_refl _)
theorem Sm.tup (h : Sms w dp ds) : Sm w (dp + 1) (.tup ds) := by
  refine ⟨h.ok, ?_, ?_, ?_, ?_⟩
  · simp only [toPy, PyData.showable]; exact h.show_
  · simp only [toPy, PyData.depth]; exact Nat.succ_le_succ h.deep
  · simp only [toPy, PyData.leavesShort]; exact h.leaf
  · simp only [toPy, PyData.weight]; exact h.wt
theorem Sm.lst (h : Sms w dp ds) : Sm w (dp + 1) (.lst ds) := by
  refine ⟨h.ok, ?_, ?_, ?_, ?_⟩
  · simp only [toPy, PyData.showable]; exact h.show_
  · simp only [toPy, PyData.depth]; exact Nat.succ_le_succ h.deep
  · simp only [toPy, PyData.leavesShort]; exact h.leaf
  · simp only [toPy, PyData.weight]; exact h.wt
theorem Sm.dct0 : Sm 0 1 (.dct []) := ⟨rfl, rfl, Nat.le_refl _, rfl, Nat.le_refl _⟩
/-- by look -/
def smB (w dp : Nat) (d : D) : Bool := okD d && (toPy d).showable && decide ((toPy d).depth ≤ dp) && (toPy d).leavesShort 1000 && decide ((toPy d).weight ≤ w)
theorem Sm.by (h : smB w dp d = true) : Sm w dp d := by
  unfold smB at h
  simp only [Bool.and_eq_true, decide_eq_true_eq] at h
  exact ⟨h.1.1.1.1, h.1.1.1.2, h.1.1.2, h.1.2, h.2⟩
end

/-! ### operators of known values -/
section
variable {M : Mem} {Q : Kd} {Qb : Bool → Prop} {Qd : D → Prop} {i j : Int} {xs ys : List D} {x y : D} {a b : Str}
theorem add_ii : op2 .add (.int i) (.int j) M Q ↔ Q (.int (i + j)) M := by
  constructor
  · rintro (⟨_, _, e1, e2, q⟩ | ⟨_, _, e1, _⟩ | ⟨_, _, e1, _⟩ | ⟨_, _, e1, _⟩)
    · cases e1; cases e2; exact q
    · cases e1
    · cases e1
    · cases e1
  · exact fun q => .inl ⟨i, j, rfl, rfl, q⟩
theorem sub_ii : op2 .sub (.int i) (.int j) M Q ↔ Q (.int (i - j)) M := by
  constructor
  · rintro ⟨_, _, e1, e2, q⟩; cases e1; cases e2; exact q
  · exact fun q => ⟨i, j, rfl, rfl, q⟩
theorem mul_ii : op2 .mul (.int i) (.int j) M Q ↔ mulOk i j ∧ Q (.int (i * j)) M := by
  constructor
  · rintro (⟨_, _, e1, e2, q⟩ | ⟨_, _, e1, _⟩ | ⟨_, _, e1, _⟩ | ⟨_, e1, _⟩)
    · cases e1; cases e2; exact q
    · cases e1
    · cases e1
    · cases e1
  · exact fun q => .inl ⟨i, j, rfl, rfl, q⟩
theorem fdiv_ii : op2 .fdiv (.int i) (.int j) M Q ↔ (0 < j ∧ j.natAbs.log2 < 9000 ∧ Q (.int (i / j)) M) := by
  constructor
  · rintro ⟨_, _, e1, e2, q⟩; cases e1; cases e2; exact q
  · exact fun q => ⟨i, j, rfl, rfl, q⟩
theorem mod_ii : op2 .mod (.int i) (.int j) M Q ↔ (0 < j ∧ Q (.int (i % j)) M) := by
  constructor
  · rintro ⟨_, _, e1, e2, q⟩; cases e1; cases e2; exact q
  · exact fun q => ⟨i, j, rfl, rfl, q⟩
theorem pow_ii : op2 .pow (.int i) (.int j) M Q ↔ (0 ≤ j ∧ j ≤ 1000000 ∧ i.natAbs < 2 ^ 64 ∧ Q (.int (i ^ j.toNat)) M) := by
  constructor
  · rintro ⟨_, _, e1, e2, q⟩; cases e1; cases e2; exact q
  · exact fun q => ⟨i, j, rfl, rfl, q⟩
theorem add_tt : op2 .add (.tup xs) (.tup ys) M Q ↔ (xs.length + ys.length ≤ sizeLine ∧ Q (.tup (xs ++ ys)) M) := by
  constructor
  · rintro (⟨_, _, e1, _⟩ | ⟨_, _, e1, _⟩ | ⟨_, _, e1, e2, q⟩ | ⟨_, _, e1, _⟩)
    · cases e1
    · cases e1
    · cases e1; cases e2; exact q
    · cases e1
  · exact fun q => .inr (.inr (.inl ⟨xs, ys, rfl, rfl, q⟩))
theorem add_ll (hx : lsOf M x = some xs) (hy : lsOf M y = some ys) (hs : xs.length + ys.length ≤ sizeLine) (q : Q (.fr (.lst (xs ++ ys))) M) : op2 .add x y M Q := .inr (.inr (.inr ⟨xs, ys, hx, hy, hs, q⟩))
theorem lt_ii : opC .lt (.int i) (.int j) M Qb ↔ Qb (decide (i < j)) := by
  constructor
  · rintro ⟨_, _, e1, e2, q⟩; cases e1; cases e2; exact q
  · exact fun q => ⟨i, j, rfl, rfl, q⟩
theorem le_ii : opC .le (.int i) (.int j) M Qb ↔ Qb (decide (i ≤ j)) := by
  constructor
  · rintro ⟨_, _, e1, e2, q⟩; cases e1; cases e2; exact q
  · exact fun q => ⟨i, j, rfl, rfl, q⟩
theorem gt_ii : opC .gt (.int i) (.int j) M Qb ↔ Qb (decide (j < i)) := by
  constructor
  · rintro ⟨_, _, e1, e2, q⟩; cases e1; cases e2; exact q
  · exact fun q => ⟨i, j, rfl, rfl, q⟩
theorem ge_ii : opC .ge (.int i) (.int j) M Qb ↔ Qb (decide (j ≤ i)) := by
  constructor
  · rintro ⟨_, _, e1, e2, q⟩; cases e1; cases e2; exact q
  · exact fun q => ⟨i, j, rfl, rfl, q⟩
theorem eqv_ii : PyData.eqv (.int i) (.int j) = decide (i = j) := by
  show (i == j) = _
  rw [Bool.eq_iff_iff]; simp
theorem shp_i : SeqAt.shaped (.int i) = true := by simp [SeqAt.shaped, PyData.canLay0, PyData.depth]
theorem eq_ii (q : Qb (decide (i = j))) : opC .eq (.int i) (.int j) M Qb := .inr ⟨.int i, .int j, .int i, .int j, shp_i, shp_i, by rw [eqv_ii]; exact q⟩
theorem ne_ii (q : Qb (!decide (i = j))) : opC .ne (.int i) (.int j) M Qb := .inr ⟨.int i, .int j, .int i, .int j, shp_i, shp_i, by rw [eqv_ii]; exact q⟩
theorem eq_ss (q : Qb (decide (a = b))) : opC .eq (.str a) (.str b) M Qb := .inl ⟨a, b, rfl, rfl, q⟩
theorem ne_ss (q : Qb (!decide (a = b))) : opC .ne (.str a) (.str b) M Qb := .inl (.inl ⟨a, b, rfl, rfl, q⟩)
theorem ne_nilE {x y : D} {xs : List D} (h : lsOf M x = some xs) (h2 : lsOf M y = some []) (q : Qb (!xs.isEmpty)) : opC .ne x y M Qb := .inl (.inr ⟨xs, h, h2, q⟩)
theorem isn_of (q : Qb (isNon x)) : opC .is x .non M Qb := ⟨rfl, q⟩
theorem isnn_of (q : Qb (!isNon x)) : opC .isnot x .non M Qb := ⟨rfl, q⟩
theorem Pys.empty {n : Nat} : ∀ {xs : List D} {ps : List PyData}, Pys M xs ps → PyData.eqvAll ps [] = xs.isEmpty
  | _, _, .nil => by simp [PyData.eqvAll]
  | _, _, .cons _ _ => by simp [PyData.eqvAll]
/-- xs != [] -/
theorem ne_nil {n : Nat} {ps : List PyData} (hM : M[n]? = some (.lst xs)) (hp : Pys M xs ps) (hs : SeqAt.shaped (.list ps) = true) (q : Qb (!xs.isEmpty)) : opC .ne (.loc n) (.lst []) M Qb :=
  .inr ⟨.list ps, .list [], .locL hM hp, .lst .nil, hs, by decide, by show Qb (!PyData.eqvAll ps []); rw [hp.empty (n := n)]; exact q⟩
theorem len_t : opB .len [.tup xs] M Q ↔ Q (.int xs.length) M := by
  constructor
  · rintro ⟨d, e, ⟨_, e1, q⟩ | ⟨_, e1, _⟩⟩
    · cases e; cases e1; exact q
    · cases e; cases e1
  · exact fun q => ⟨_, rfl, .inl ⟨xs, rfl, q⟩⟩
theorem len_of (h : sqOf M x = some xs) (q : Q (.int xs.length) M) : opB .len [x] M Q := ⟨x, rfl, .inl ⟨xs, h, q⟩⟩
theorem abs_i : opB .abs [.int i] M Q ↔ Q (.int (if i < 0 then -i else i)) M := by
  constructor
  · rintro ⟨_, e, q⟩; cases e; exact q
  · exact fun q => ⟨i, rfl, q⟩
theorem int_i : opB .int [.int i] M Q ↔ Q (.int i) M := by
  constructor
  · rintro (⟨_, e, q⟩ | ⟨_, e, q⟩)
    · cases e; exact q
    · cases e
  · exact fun q => .inl ⟨i, rfl, q⟩
theorem int_b {c : Bool} : opB .int [.bl c] M Q ↔ Q (.int (if c then 1 else 0)) M := by
  constructor
  · rintro (⟨_, e, q⟩ | ⟨_, e, q⟩)
    · cases e
    · cases e; exact q
  · exact fun q => .inr ⟨c, rfl, q⟩
theorem list_of (h : sqOf M x = some xs) (q : Q (.fr (.lst xs)) M) : opB .list [x] M Q := ⟨x, xs, rfl, h, q⟩
theorem tuple_of (h : sqOf M x = some xs) (q : Q (.tup xs) M) : opB .tuple [x] M Q := ⟨x, xs, rfl, h, q⟩
theorem str_of (h : i.natAbs.log2 < 1920) (q : Q (.str (toString i)) M) : opB .str [.int i] M Q := ⟨i, rfl, h, q⟩
theorem ix_sq {k : Int} (h : sqOf M x = some xs) (e : atI xs k = some y) (q : Qd y) : opIx x (.int k) M Qd := .inl ⟨xs, k, y, h, rfl, e, q⟩
theorem ix_dic {n : Nat} {ks : List (Key × D)} {kk : Key} (h : M[n]? = some (.dic ks)) (hi : x.toKey = some kk) (e : lookK ks kk = some y) (q : Qd y) : opIx (.loc n) x M Qd := .inr (.inr ⟨ks, kk, y, by simp [dcOf, h], hi, e, q⟩)
/-- of this built-in type -/
def isA (n : String) (d : D) : Bool := match tyD d with
  | some t => isTy t n
  | none => false
theorem isA_iff {n : String} (h : okD x = true) (hn : n ∈ ["int", "bool", "str", "tuple", "list", "dict"]) : opB .isinst [x, .ty n] M Q ↔ Q (.bl (isA n x)) M := by
  obtain ⟨t, ht⟩ := okD_ty h
  rw [isi_iff ht hn]
  unfold isA
  rw [ht]
theorem isA_tup : isA "tuple" (.tup xs) = true := rfl
theorem isA_no (h : ∀ xs, x ≠ .tup xs) : isA "tuple" x = false := by
  cases x <;> first | rfl | exact absurd rfl (h _)
theorem ls_loc {n : Nat} (h : M[n]? = some (.lst xs)) : lsOf M (.loc n) = some xs := by simp only [lsOf, h]
theorem sq_loc {n : Nat} (h : M[n]? = some (.lst xs)) : sqOf M (.loc n) = some xs := by simp only [sqOf, lsOf, h]
theorem ix_dic_iff {n : Nat} {ks : List (Key × D)} {kk : Key} (h : M[n]? = some (.dic ks)) (hi : x.toKey = some kk) (e : lookK ks kk = some y) : opIx (.loc n) x M Qd ↔ Qd y := by
  constructor
  · rintro (⟨_, _, _, e1, _⟩ | ⟨_, _, _, e1, _⟩ | ⟨ks', k', d, e1, e2, e3, q⟩)
    · simp [sqOf, lsOf, h] at e1
    · cases e1
    · simp only [dcOf, h] at e1
      cases e1
      rw [hi] at e2; cases e2
      rw [e] at e3; cases e3
      exact q
  · exact ix_dic h hi e
theorem put_dic {n : Nat} {ks : List (Key × D)} {kk : Key} {Qm : Mem → Prop} (h : M[n]? = some (.dic ks)) (hi : x.toKey = some kk) (hs : ks.length < sizeLine) (q : Qm (M.set n (.dic (putK' ks kk y)))) : opSet (.loc n) x y M Qm := .inr ⟨n, ks, kk, rfl, h, hi, hs, q⟩
theorem sl_t {lo hi : Option Int} (q : Qd (.tup (cutD xs lo hi))) : opSl (.tup xs) lo hi M Qd := .inl ⟨xs, rfl, q⟩
theorem sl_l {lo hi : Option Int} (h : lsOf M x = some xs) (q : Qd (.fr (.lst (cutD xs lo hi)))) : opSl x lo hi M Qd := .inr (.inl ⟨xs, h, q⟩)
theorem sl_f {lo hi : Option Int} (q : Qd (.fr (.lst (cutD xs lo hi)))) : opSl (.fz xs) lo hi M Qd := .inr (.inr ⟨xs, rfl, q⟩)
theorem app_of {n : Nat} (h : M[n]? = some (.lst xs)) (hs : xs.length < sizeLine) (q : Q .non (M.set n (.lst (xs ++ [x])))) : opM .append (.loc n) [x] M Q := ⟨n, xs, x, rfl, rfl, h, hs, q⟩
theorem pop_of {n : Nat} (h : M[n]? = some (.lst xs)) (e : xs[xs.length - 1]? = some x) (q : Q x (M.set n (.lst xs.dropLast))) : opM .pop (.loc n) [] M Q := ⟨n, xs, rfl, h, .inl ⟨rfl, x, e, q⟩⟩
theorem popAt_of {n : Nat} {kk : Nat} (h : M[n]? = some (.lst xs)) (h1 : -(2 ^ 63) ≤ i) (h2 : i < 2 ^ 63) (h3 : seqIndex? i xs.length = some kk) (e : xs[kk]? = some x) (q : Q x (M.set n (.lst (xs.eraseIdx kk)))) : opM .pop (.loc n) [.int i] M Q :=
  ⟨n, xs, rfl, h, .inr ⟨i, kk, x, rfl, h1, h2, h3, e, q⟩⟩
theorem atI_nat {k : Nat} (h : xs[k]? = some x) (hz : xs.length ≤ sizeLine) : atI xs (k : Int) = some x := by
  unfold atI
  have hl := (List.getElem?_eq_some_iff.mp h).1
  have : ixN xs.length (k : Int) = some k := by
    unfold ixN
    have e : sizeLine = 16777216 := sizeLine_eq
    simp
    omega
  rw [this]
  exact h
theorem it_t {R : List D → Gd → Prop} (q : R xs []) : itOf M (.tup xs) R := .inl ⟨xs, rfl, q⟩
theorem it_f {R : List D → Gd → Prop} (q : R xs []) : itOf M (.fz xs) R := .inr (.inl ⟨xs, rfl, q⟩)
theorem it_l {R : List D → Gd → Prop} (q : R xs []) : itOf M (.lst xs) R := .inr (.inr (.inl ⟨xs, rfl, q⟩))
theorem it_c {n : Nat} {R : List D → Gd → Prop} (h : M[n]? = some (.lst xs)) (q : R xs [(n, .lst xs)]) : itOf M (.loc n) R := .inr (.inr (.inr ⟨n, xs, rfl, h, q⟩))
end
end Lay

set_option Elab.async false
set_option maxRecDepth 100000
set_option linter.all false
/-! Lay, part W: more is wanted, more is there; tests cut off. -/
namespace Lay
open PySem L2 RZ PyProof.Rows

section
variable {M : Mem} {Q Q' : Kd} (k : ∀ d M, Q d M → Q' d M)
include k
theorem op2_mono {o : BO} {x y : D} (h : op2 o x y M Q) : op2 o x y M Q' := by
  cases o with
  | add => exact h.imp (fun ⟨i, j, a, b, q⟩ => ⟨i, j, a, b, k _ _ q⟩) (Or.imp (fun ⟨i, j, a, b, c, q⟩ => ⟨i, j, a, b, c, k _ _ q⟩) (Or.imp (fun ⟨i, j, a, b, c, q⟩ => ⟨i, j, a, b, c, k _ _ q⟩) (fun ⟨i, j, a, b, c, q⟩ => ⟨i, j, a, b, c, k _ _ q⟩)))
  | sub => obtain ⟨i, j, a, b, q⟩ := h; exact ⟨i, j, a, b, k _ _ q⟩
  | mul => exact h.imp (fun ⟨i, j, a, b, c, q⟩ => ⟨i, j, a, b, c, k _ _ q⟩) (Or.imp (fun ⟨i, j, a, b, c, d, e, q⟩ => ⟨i, j, a, b, c, d, e, k _ _ q⟩) (Or.imp (fun ⟨i, j, a, b, c, d, e, f, q⟩ => ⟨i, j, a, b, c, d, e, f, k _ _ q⟩) (fun ⟨i, a, b, q⟩ => ⟨i, a, b, k _ _ q⟩)))
  | fdiv => obtain ⟨i, j, a, b, c, d, q⟩ := h; exact ⟨i, j, a, b, c, d, k _ _ q⟩
  | mod => obtain ⟨i, j, a, b, c, q⟩ := h; exact ⟨i, j, a, b, c, k _ _ q⟩
  | pow => obtain ⟨i, j, a, b, c, d, e, q⟩ := h; exact ⟨i, j, a, b, c, d, e, k _ _ q⟩
theorem opB_mono {o : BF} {ds : List D} (h : opB o ds M Q) : opB o ds M Q' := by
  cases o with
  | len => obtain ⟨d, e, h⟩ := h; exact ⟨d, e, h.imp (fun ⟨a, b, q⟩ => ⟨a, b, k _ _ q⟩) (fun ⟨a, b, c, q⟩ => ⟨a, b, c, k _ _ q⟩)⟩
  | isinst => obtain ⟨a, b, c, d, e, f, q⟩ := h; exact ⟨a, b, c, d, e, f, k _ _ q⟩
  | repr => obtain ⟨a, b, c, d, e, q⟩ := h; exact ⟨a, b, c, d, e, k _ _ q⟩
  | abs => obtain ⟨a, b, q⟩ := h; exact ⟨a, b, k _ _ q⟩
  | int => exact h.imp (fun ⟨a, b, q⟩ => ⟨a, b, k _ _ q⟩) (fun ⟨a, b, q⟩ => ⟨a, b, k _ _ q⟩)
  | str => obtain ⟨a, b, c, q⟩ := h; exact ⟨a, b, c, k _ _ q⟩
  | list => obtain ⟨a, b, c, d, q⟩ := h; exact ⟨a, b, c, d, k _ _ q⟩
  | tuple => obtain ⟨a, b, c, d, q⟩ := h; exact ⟨a, b, c, d, k _ _ q⟩
  | sum => obtain ⟨a, b, c, d, e, f, q⟩ := h; exact ⟨a, b, c, d, e, f, k _ _ q⟩
  | sorted =>
    rcases h with ⟨a, b, c, d, e, f, q⟩ | ⟨a, b, c, d, e, q⟩
    · exact .inl ⟨a, b, c, d, e, f, fun is h1 h2 => k _ _ (q is h1 h2)⟩
    · exact .inr ⟨a, b, c, d, e, fun is h1 h2 => k _ _ (q is h1 h2)⟩
  | all => obtain ⟨a, b, c, d, e, f, q⟩ := h; exact ⟨a, b, c, d, e, f, k _ _ q⟩
  | any => obtain ⟨a, b, c, d, e, f, q⟩ := h; exact ⟨a, b, c, d, e, f, k _ _ q⟩
  | max => exact h.imp (fun ⟨a, b, c, q⟩ => ⟨a, b, c, k _ _ q⟩) (fun ⟨a, b, c, d, e, f, g, q⟩ => ⟨a, b, c, d, e, f, g, fun m h1 h2 => k _ _ (q m h1 h2)⟩)
  | min => exact h.imp (fun ⟨a, b, c, q⟩ => ⟨a, b, c, k _ _ q⟩) (fun ⟨a, b, c, d, e, f, g, q⟩ => ⟨a, b, c, d, e, f, g, fun m h1 h2 => k _ _ (q m h1 h2)⟩)
theorem opM_mono {o : MT} {x : D} {ds : List D} (h : opM o x ds M Q) : opM o x ds M Q' := by
  cases o with
  | append => obtain ⟨a, b, c, d, e, f, g, q⟩ := h; exact ⟨a, b, c, d, e, f, g, k _ _ q⟩
  | pop =>
    obtain ⟨a, b, c, d, h⟩ := h
    exact ⟨a, b, c, d, h.imp (fun ⟨e, f, g, q⟩ => ⟨e, f, g, k _ _ q⟩) (fun ⟨e, f, g, h1, h2, h3, h4, h5, q⟩ => ⟨e, f, g, h1, h2, h3, h4, h5, k _ _ q⟩)⟩
  | extend => obtain ⟨a, b, c, d, e, f, g, h1, h2, h3, q⟩ := h; exact ⟨a, b, c, d, e, f, g, h1, h2, h3, k _ _ q⟩
end
section
variable {M : Mem}
theorem opC_mono {P P' : Bool → Prop} (k : ∀ b, P b → P' b) {o : CO} {x y : D} (h : opC o x y M P) : opC o x y M P' := by
  cases o with
  | eq => exact h.imp (fun ⟨a, b, c, d, q⟩ => ⟨a, b, c, d, k _ q⟩) (fun ⟨a, b, c, d, e, f, q⟩ => ⟨a, b, c, d, e, f, k _ q⟩)
  | ne => exact h.imp (Or.imp (fun ⟨a, b, c, d, q⟩ => ⟨a, b, c, d, k _ q⟩) (fun ⟨a, b, c, q⟩ => ⟨a, b, c, k _ q⟩)) (fun ⟨a, b, c, d, e, f, q⟩ => ⟨a, b, c, d, e, f, k _ q⟩)
  | lt => obtain ⟨a, b, c, d, q⟩ := h; exact ⟨a, b, c, d, k _ q⟩
  | le => obtain ⟨a, b, c, d, q⟩ := h; exact ⟨a, b, c, d, k _ q⟩
  | gt => obtain ⟨a, b, c, d, q⟩ := h; exact ⟨a, b, c, d, k _ q⟩
  | ge => obtain ⟨a, b, c, d, q⟩ := h; exact ⟨a, b, c, d, k _ q⟩
  | is => exact ⟨h.1, k _ h.2⟩
  | isnot => exact ⟨h.1, k _ h.2⟩
  | isin => exact h.imp (fun ⟨a, b, c, d, q⟩ => ⟨a, b, c, d, k _ q⟩) (Or.imp (fun ⟨a, b, c, d, e, f, g, h1, q⟩ => ⟨a, b, c, d, e, f, g, h1, k _ q⟩) (Or.imp (fun ⟨a, b, c, d, q⟩ => ⟨a, b, c, d, k _ q⟩) (fun ⟨a, b, c, d, e, f, g, h1, q⟩ => ⟨a, b, c, d, e, f, g, h1, k _ q⟩)))
  | notin => exact h.imp (fun ⟨a, b, c, d, q⟩ => ⟨a, b, c, d, k _ q⟩) (Or.imp (fun ⟨a, b, c, d, e, f, g, h1, q⟩ => ⟨a, b, c, d, e, f, g, h1, k _ q⟩) (Or.imp (fun ⟨a, b, c, d, q⟩ => ⟨a, b, c, d, k _ q⟩) (fun ⟨a, b, c, d, e, f, g, h1, q⟩ => ⟨a, b, c, d, e, f, g, h1, k _ q⟩)))
theorem opIx_mono {P P' : D → Prop} (k : ∀ d, P d → P' d) {x y : D} (h : opIx x y M P) : opIx x y M P' :=
  h.imp (fun ⟨a, b, c, d, e, f, q⟩ => ⟨a, b, c, d, e, f, k _ q⟩) (Or.imp (fun ⟨a, b, c, d, e, f, g, q⟩ => ⟨a, b, c, d, e, f, g, k _ q⟩) (fun ⟨a, b, c, d, e, f, q⟩ => ⟨a, b, c, d, e, f, k _ q⟩))
theorem opSl_mono {P P' : D → Prop} (k : ∀ d, P d → P' d) {x : D} {lo hi : Option Int} (h : opSl x lo hi M P) : opSl x lo hi M P' :=
  h.imp (fun ⟨a, b, q⟩ => ⟨a, b, k _ q⟩) (Or.imp (fun ⟨a, b, q⟩ => ⟨a, b, k _ q⟩) (fun ⟨a, b, q⟩ => ⟨a, b, k _ q⟩))
theorem opRng_mono {P P' : List D → Prop} (k : ∀ d, P d → P' d) {n : Nat} {ds : List D} (h : opRng n ds P) : opRng n ds P' := by
  match n, h with
  | 1, ⟨a, b, c, q⟩ => exact ⟨a, b, c, k _ q⟩
  | 2, ⟨a, b, c, d, e, q⟩ => exact ⟨a, b, c, d, e, k _ q⟩
  | 3, ⟨a, b, c, d, e, f, q⟩ => exact ⟨a, b, c, d, e, f, k _ q⟩
  | 0, h => exact h.elim
  | _ + 4, h => exact h.elim
end
def GMono (Γ : Gam) : Prop := ∀ f ds M X (Q Q' : Kd), (∀ d M, Q d M → Q' d M) → Γ f ds M X Q → Γ f ds M X Q'
section
variable {Γ : Gam} (gm : GMono Γ)
include gm
mutual
theorem wp_mono : ∀ (e : E) (σ : Sl) (M : Mem) (X : XP) (Q Q' : Kd), (∀ d M, Q d M → Q' d M) → wp Γ e σ M X Q → wp Γ e σ M X Q'
  | .v i, σ, M, X, Q, Q', k, ⟨d, e, q⟩ => ⟨d, e, k _ _ q⟩
  | .c d, σ, M, X, Q, Q', k, h => k _ _ h
  | .bin o a b, σ, M, X, Q, Q', k, h => wp_mono a σ M X _ _ (fun x M1 h => wp_mono b σ M1 X _ _ (fun y M2 h => op2_mono k h) h) h
  | .neg a, σ, M, X, Q, Q', k, h => wp_mono a σ M X _ _ (fun x M1 ⟨i, e, q⟩ => ⟨i, e, k _ _ q⟩) h
  | .cmp a ls, σ, M, X, Q, Q', k, h => wp_mono a σ M X _ _ (fun x M1 h => wpC_mono ls (shr x) σ M1 X _ _ k h) h
  | .and a b, σ, M, X, Q, Q', k, h => wp_mono a σ M X _ _ (fun x M1 h => truth_mono (fun c h => by
      cases c with
      | true => rw [if_pos rfl] at h ⊢; exact wp_mono b σ M1 X _ _ k h
      | false => rw [if_neg Bool.false_ne_true] at h ⊢; exact k _ _ h) h) h
  | .or a b, σ, M, X, Q, Q', k, h => wp_mono a σ M X _ _ (fun x M1 h => truth_mono (fun c h => by
      cases c with
      | true => rw [if_pos rfl] at h ⊢; exact k _ _ h
      | false => rw [if_neg Bool.false_ne_true] at h ⊢; exact wp_mono b σ M1 X _ _ k h) h) h
  | .not a, σ, M, X, Q, Q', k, h => wp_mono a σ M X _ _ (fun x M1 h => truth_mono (fun c h => k _ _ h) h) h
  | .ite c a b, σ, M, X, Q, Q', k, h => wp_mono c σ M X _ _ (fun x M1 h => truth_mono (fun c h => by
      cases c with
      | true => rw [if_pos rfl] at h ⊢; exact wp_mono a σ M1 X _ _ k h
      | false => rw [if_neg Bool.false_ne_true] at h ⊢; exact wp_mono b σ M1 X _ _ k h) h) h
  | .ix a b, σ, M, X, Q, Q', k, h => wp_mono a σ M X _ _ (fun x M1 h => wp_mono b σ M1 X _ _ (fun y M2 h => opIx_mono (fun d q => k _ _ q) h) h) h
  | .sl a lo hi, σ, M, X, Q, Q', k, h => wp_mono a σ M X _ _ (fun x M1 h => wpO_mono lo σ M1 X _ _ (fun l M2 h => wpO_mono hi σ M2 X _ _ (fun u M3 h => opSl_mono (fun d q => k _ _ q) h) h) h) h
  | .rev a, σ, M, X, Q, Q', k, h => wp_mono a σ M X _ _ (fun x M1 h => h.imp (fun ⟨a, b, q⟩ => ⟨a, b, k _ _ q⟩) (fun ⟨a, b, q⟩ => ⟨a, b, k _ _ q⟩)) h
  | .tup es, σ, M, X, Q, Q', k, h => wps_mono es σ M X _ _ (fun ds M1 h => ⟨h.1, k _ _ h.2⟩) h
  | .lst es, σ, M, X, Q, Q', k, h => wps_mono es σ M X _ _ (fun ds M1 h => ⟨h.1, k _ _ h.2⟩) h
  | .dct0, σ, M, X, Q, Q', k, h => k _ _ h
  | .dct ps, σ, M, X, Q, Q', k, h => wpP_mono ps σ _ X _ _ (fun ks M1 h => ⟨h.1, h.2.1, k _ _ h.2.2⟩) h
  | .call f es, σ, M, X, Q, Q', k, h => wps_mono es σ M X _ _ (fun ds M1 h => ⟨h.1, gm _ _ _ _ _ _ k h.2⟩) h
  | .callk f pm es ks, σ, M, X, Q, Q', k, h => wps_mono es σ M X _ _ (fun ds M1 h => wps_mono ks σ M1 X _ _ (fun zs M2 h => ⟨h.1, h.2.1, gm _ _ _ _ _ _ k h.2.2⟩) h) h
  | .bf f es, σ, M, X, Q, Q', k, h => wps_mono es σ M X _ _ (fun ds M1 h => opB_mono k h) h
  | .mt m o es, σ, M, X, Q, Q', k, h => wp_mono o σ M X _ _ (fun x M1 h => ⟨h.1, wps_mono es σ M1 X _ _ (fun ds M2 h => opM_mono k h) h.2⟩) h
  | .lc t it c e own, σ, M, X, Q, Q', k, h => wpI_mono it σ M X _ _ (fun xs gd M1 ⟨I, h0, h⟩ => ⟨I, h0, fun i acc M2 hi => ⟨(h i acc M2 hi).1, fun e => k _ _ ((h i acc M2 hi).2.1 e), (h i acc M2 hi).2.2⟩⟩) h
  | .mk e, σ, M, X, Q, Q', k, h => wp_mono e σ M X _ _ (fun d M1 h => h.imp (fun ⟨a, b, q⟩ => ⟨a, b, k _ _ q⟩) (Or.imp (fun ⟨a, b, q⟩ => ⟨a, b, k _ _ q⟩) (fun ⟨b, q⟩ => ⟨b, k _ _ q⟩))) h
  | .lrng es, σ, M, X, Q, Q', k, h => wps_mono es σ M X _ _ (fun ds M1 h => opRng_mono (fun xs q => ⟨q.1, k _ _ q.2⟩) h) h
  | .lzip es, σ, M, X, Q, Q', k, h => wps_mono es σ M X _ _ (fun ds M1 ⟨a, b, c, d, e1, e2, e3, q⟩ => ⟨a, b, c, d, e1, e2, e3, k _ _ q⟩) h
  | .sset es, σ, M, X, Q, Q', k, h => wps_mono es σ M X _ _ (fun ds M1 ⟨a, d, e1, e3, e2, q⟩ => ⟨a, d, e1, e3, e2, fun b h1 h2 => k _ _ (q b h1 h2)⟩) h
theorem wps_mono : ∀ (es : Es) (σ : Sl) (M : Mem) (X : XP) (Q Q' : List D → Mem → Prop), (∀ d M, Q d M → Q' d M) → wps Γ es σ M X Q → wps Γ es σ M X Q'
  | .nil, σ, M, X, Q, Q', k, h => k _ _ h
  | .cons e es, σ, M, X, Q, Q', k, h => wp_mono e σ M X _ _ (fun d M1 h => wps_mono es σ M1 X _ _ (fun ds M2 h => k _ _ h) h) h
theorem wpO_mono : ∀ (es : Eo) (σ : Sl) (M : Mem) (X : XP) (Q Q' : Option Int → Mem → Prop), (∀ d M, Q d M → Q' d M) → wpO Γ es σ M X Q → wpO Γ es σ M X Q'
  | .none, σ, M, X, Q, Q', k, h => k _ _ h
  | .some e, σ, M, X, Q, Q', k, h => wp_mono e σ M X _ _ (fun d M1 ⟨i, e, q⟩ => ⟨i, e, k _ _ q⟩) h
theorem wpP_mono : ∀ (es : Ps) (σ : Sl) (M : Mem) (X : XP) (Q Q' : List (Key × D) → Mem → Prop), (∀ d M, Q d M → Q' d M) → wpP Γ es σ M X Q → wpP Γ es σ M X Q'
  | .nil, σ, M, X, Q, Q', k, h => k _ _ h
  | .cons a e es, σ, M, X, Q, Q', k, h => wp_mono a σ M X _ _ (fun x M1 h => wp_mono e σ M1 X _ _ (fun y M2 h => wpP_mono es σ M2 X _ _ (fun ks M3 ⟨i, e, q⟩ => ⟨i, e, k _ _ q⟩) h) h) h
theorem wpC_mono : ∀ (es : Cs) (x : D) (σ : Sl) (M : Mem) (X : XP) (Q Q' : Kd), (∀ d M, Q d M → Q' d M) → wpC Γ es x σ M X Q → wpC Γ es x σ M X Q'
  | .one o e, x, σ, M, X, Q, Q', k, h => wp_mono e σ M X _ _ (fun y M1 h => opC_mono (fun b q => k _ _ q) h) h
  | .cons o e r, x, σ, M, X, Q, Q', k, h => wp_mono e σ M X _ _ (fun y M1 h => opC_mono (fun c h => by
      cases c with
      | true => rw [if_pos rfl] at h ⊢; exact wpC_mono r (shr y) σ M1 X _ _ k h
      | false => rw [if_neg Bool.false_ne_true] at h ⊢; exact k _ _ h) h) h
theorem wpI_mono : ∀ (it : IT) (σ : Sl) (M : Mem) (X : XP) (Q Q' : List D → Gd → Mem → Prop), (∀ d g M, Q d g M → Q' d g M) → wpI Γ it σ M X Q → wpI Γ it σ M X Q'
  | .seq e, σ, M, X, Q, Q', k, h => wp_mono e σ M X _ _ (fun d M1 h => itOf_imp (fun xs g q => k _ _ _ q) h) h
  | .rng es, σ, M, X, Q, Q', k, h => wps_mono es σ M X _ _ (fun ds M1 h => opRng_mono (fun xs q => k _ _ _ q) h) h
  | .enm es, σ, M, X, Q, Q', k, h => wps_mono es σ M X _ _ (fun ds M1 ⟨d, e, h⟩ => ⟨d, e, itOf_imp (fun xs g q => k _ _ _ q) h⟩) h
  | .zip es, σ, M, X, Q, Q', k, h => wps_mono es σ M X _ _ (fun ds M1 ⟨x, y, e, h⟩ => ⟨x, y, e, itOf_imp (fun xs g h => itOf_imp (fun ys g2 q => ⟨q.1, k _ _ _ q.2⟩) h) h⟩) h
end
/-- a value first, then what follows -/
theorem wp_cut {e : E} {σ : Sl} {M : Mem} {X : XP} {Q Q' : Kd} (h : wp Γ e σ M X Q) (k : ∀ d M, Q d M → Q' d M) : wp Γ e σ M X Q' := wp_mono gm e σ M X Q Q' k h
/-- a test that changes nothing -/
theorem ite_cut {b : Bool} {c : E} {s1 s2 ss : Ss} {P : Po} {σ : Sl} {M : Mem} (h : wp Γ c σ M (fun x m => P.xe x σ m) fun x M1 => M1 = M ∧ truth (shr x) M fun k => k = b)
    (q : if b = true then wss Γ s1 { P with nx := fun σ' M' => wss Γ ss P σ' M' } σ M else wss Γ s2 { P with nx := fun σ' M' => wss Γ ss P σ' M' } σ M) : wss Γ (.cons (.ite c s1 s2) ss) P σ M := by
  refine wp_mono gm c σ M _ _ _ (fun x M1 h => ?_) h
  obtain ⟨rfl, h⟩ := h
  exact truth_mono (fun k e => by subst e; exact q) h
end
section
variable {Γ : Gam} (gm : GMono Γ)
include gm
/-- for, what is walked being known -/
theorem for_cut {it : IT} {t : Tg} {body ss : Ss} {P : Po} {σ : Sl} {M M1 : Mem} (xs : List D) (gd : Gd) (hit : wpI Γ it σ M (fun x m => P.xe x σ m) fun xs' gd' M' => xs' = xs ∧ gd' = gd ∧ M' = M1) (I : Nat → Sl → Mem → Prop) (h0 : I 0 σ M1)
    (hg : ∀ i σ2 M2, I i σ2 M2 → ∀ g ∈ gd, M2[g.1]? = some g.2) (hend : ∀ σ2 M2, I xs.length σ2 M2 → wss Γ ss P σ2 M2)
    (hstep : ∀ i x σ2 M2, xs[i]? = some x → I i σ2 M2 → wpTg t x σ2 fun σ3 => wss Γ body { nx := I (i + 1), ct := I (i + 1), bk := fun σ M => wss Γ ss P σ M, rt := P.rt, xe := P.xe } σ3 M2) : wss Γ (.cons (.for t it body) ss) P σ M := by
  refine wpI_mono gm it σ M _ _ _ (fun xs' gd' M' h => ?_) hit
  obtain ⟨rfl, rfl, rfl⟩ := h
  exact ⟨I, h0, fun i σ2 M2 hi => ⟨hg i σ2 M2 hi, fun e => hend σ2 M2 (by rw [e] at hi; exact hi), fun x hx => hstep i x σ2 M2 hx hi⟩⟩
end
section
variable {Γ : Gam} (gm : GMono Γ)
include gm
theorem asg_cut {t : Tg} {e : E} {ss : Ss} {P : Po} {σ : Sl} {M : Mem} {R : Kd} (h : wp Γ e σ M (fun x m => P.xe x σ m) R) (q : ∀ d M1, R d M1 → wpTg t d σ fun σ' => wss Γ ss P σ' M1) : wss Γ (.cons (.asg t e) ss) P σ M :=
  wp_mono gm e σ M _ _ _ (fun d M1 r => q d M1 r) h
theorem ite_cut2 {c : E} {s1 s2 ss : Ss} {P : Po} {σ : Sl} {M : Mem} {R : Kd} (h : wp Γ c σ M (fun x m => P.xe x σ m) R)
    (q : ∀ d M1, R d M1 → truth (shr d) M1 fun k => if k = true then wss Γ s1 { P with nx := fun σ' M' => wss Γ ss P σ' M' } σ M1 else wss Γ s2 { P with nx := fun σ' M' => wss Γ ss P σ' M' } σ M1) : wss Γ (.cons (.ite c s1 s2) ss) P σ M :=
  wp_mono gm c σ M _ _ _ (fun d M1 r => q d M1 r) h
theorem ex_cut {e : E} {ss : Ss} {P : Po} {σ : Sl} {M : Mem} {R : Kd} (h : wp Γ e σ M (fun x m => P.xe x σ m) R) (q : ∀ d M1, R d M1 → wss Γ ss P σ M1) : wss Γ (.cons (.ex e) ss) P σ M :=
  wp_mono gm e σ M _ _ _ (fun d M1 r => q d M1 r) h
theorem ret_cut {e : E} {ss : Ss} {P : Po} {σ : Sl} {M : Mem} {R : Kd} (h : wp Γ e σ M (fun x m => P.xe x σ m) R) (q : ∀ d M1, R d M1 → P.rt d M1) : wss Γ (.cons (.ret e) ss) P σ M :=
  wp_mono gm e σ M _ _ _ (fun d M1 r => q d M1 r) h
end
def SMono (S : SD) : Prop := ∀ ds M X (Q Q' : Kd), (∀ d M, Q d M → Q' d M) → S ds M X Q → S ds M X Q'
theorem gm_if {x : Str} {S : SD} {Γ : Gam} (h1 : SMono S) (h2 : GMono Γ) : GMono fun f => if f = x then S else Γ f := by
  intro f ds M X Q Q' k h
  by_cases e : f = x
  · simp only [if_pos e] at h ⊢; exact h1 ds M X Q Q' k h
  · simp only [if_neg e] at h ⊢; exact h2 f ds M X Q Q' k h
theorem gm_no : GMono fun _ _ _ _ _ => False := fun _ _ _ _ _ _ _ h => h
theorem enum_at : ∀ {xs : List D} {n i : Nat} {x : D}, (enumFrom n xs)[i]? = some x → ∃ d, xs[i]? = some d ∧ x = .tup [.int ((n + i : Nat) : Int), d]
  | [], n, i, x, h => by simp [enumFrom] at h
  | d :: ds, n, 0, x, h => by
    simp [enumFrom] at h
    exact ⟨d, rfl, by rw [← h]; rfl⟩
  | d :: ds, n, i + 1, x, h => by
    have h : (enumFrom (n + 1) ds)[i]? = some x := by simpa [enumFrom] using h
    obtain ⟨e, h1, h2⟩ := enum_at h
    exact ⟨e, by simpa using h1, by rw [h2, show n + 1 + i = n + (i + 1) by omega]⟩
theorem drop_at {α : Type} {xs : List α} {i : Nat} {x : α} (h : xs[i]? = some x) : xs.drop i = x :: xs.drop (i + 1) := by
  obtain ⟨hl, e⟩ := List.getElem?_eq_some_iff.mp h
  rw [List.drop_eq_getElem_cons hl, e]
end Lay

set_option Elab.async false
set_option maxRecDepth 100000
set_option linter.all false
namespace LK
open PySem L2 Lay RZ PyProof.Rows
def top (i : Nat) : Stmt := PySem.Challenge.pw_suretrips_k07_whole_what_stands_in_trips.main.body.getD i (.Pass ⟨0, 0, 0, 0⟩)
def gs : List (Str × D) := [("MAX_ROADS", (.int 60))]
def xs : List Str := ["TripError", "Unfit"]
/-! ### is_integer -/
def sig_is_integer : Sig := ⟨["value"], []⟩
def cc_is_integer : CC := ⟨defScope (top 5), ["value"], [], gs, [], (defScope (top 5)).names, xs⟩
def ir_is_integer : Ss := (.cons (.ret (.and (.bf .isinst (.cons (.v 0) (.cons (.c (.ty "int")) .nil))) (.not (.bf .isinst (.cons (.v 0) (.cons (.c (.ty "bool")) .nil)))))) .nil)
theorem co_is_integer : compSs 40 cc_is_integer (defBody (top 5)) = some ir_is_integer := by kernel_rfl
theorem fn_is_integer : fnsB cc_is_integer.N sig_is_integer.ps (defScope (top 5)) = true := by decide +kernel
theorem ar_is_integer : ArgsOk "is_integer" (top 5) sig_is_integer := ⟨fun _ _ _ _ _ _ us hl => match us, hl with | [_], _ => rfl, fun n ks pm h => nomatch h⟩
def fs_is_integer : List (Str × Sig) := ("is_integer", sig_is_integer) :: []
/-! ### is_road -/
def sig_is_road : Sig := ⟨["net", "value"], []⟩
def cc_is_road : CC := ⟨defScope (top 6), ["net", "value"], fs_is_integer, gs, [], (defScope (top 6)).names, xs⟩
def ir_is_road : Ss := (.cons (.ret (.and (.call "is_integer" (.cons (.v 1) .nil)) (.cmp (.c (.int 0)) (.cons .le (.v 1) (.one .lt (.bf .len (.cons (.ix (.v 0) (.c (.int 1))) .nil))))))) .nil)
theorem co_is_road : compSs 40 cc_is_road (defBody (top 6)) = some ir_is_road := by kernel_rfl
theorem fn_is_road : fnsB cc_is_road.N sig_is_road.ps (defScope (top 6)) = true := by decide +kernel
theorem ar_is_road : ArgsOk "is_road" (top 6) sig_is_road := ⟨fun _ _ _ _ _ _ us hl => match us, hl with | [_, _], _ => rfl, fun n ks pm h => nomatch h⟩
def fs_is_road : List (Str × Sig) := ("is_road", sig_is_road) :: fs_is_integer
/-! ### roads_from -/
def sig_roads_from : Sig := ⟨["net", "place"], []⟩
def cc_roads_from : CC := ⟨defScope (top 7), ["net", "place", "road", "pair"], fs_is_road, gs, [], (defScope (top 7)).names, xs⟩
def ir_roads_from : Ss := (.cons (.ret (.bf .tuple (.cons (.lc (.tup (.cons (.nm 2) (.cons (.nm 3) .nil))) (.enm (.cons (.ix (.v 0) (.c (.int 1))) .nil)) (.some (.cmp (.ix (.v 3) (.c (.int 0))) (.one .eq (.v 1)))) (.v 2) [2, 3]) .nil))) .nil)
theorem co_roads_from : compSs 40 cc_roads_from (defBody (top 7)) = some ir_roads_from := by kernel_rfl
theorem fn_roads_from : fnsB cc_roads_from.N sig_roads_from.ps (defScope (top 7)) = true := by decide +kernel
theorem ar_roads_from : ArgsOk "roads_from" (top 7) sig_roads_from := ⟨fun _ _ _ _ _ _ us hl => match us, hl with | [_, _], _ => rfl, fun n ks pm h => nomatch h⟩
def fs_roads_from : List (Str × Sig) := ("roads_from", sig_roads_from) :: fs_is_road
/-! ### places_from -/
def sig_places_from : Sig := ⟨["net", "place"], []⟩
def cc_places_from : CC := ⟨defScope (top 8), ["net", "place", "found", "a", "b"], fs_roads_from, gs, [(17, 12)], (defScope (top 8)).names, xs⟩
def ir_places_from : Ss := (.cons (.asg (.nm 2) (.mk (.dct (.cons (.v 1) (.c (.bl true)) .nil)))) (.cons (.for (.tup (.cons (.nm 3) (.cons (.nm 4) .nil))) (.seq (.bf .sorted (.cons (.ix (.v 0) (.c (.int 1))) .nil))) (.cons (.ite (.cmp (.v 3) (.one .isin (.v 2))) (.cons (.put (.v 2) (.v 4) (.c (.bl true))) .nil) .nil) .nil)) (.cons (.ret (.v 2)) .nil)))
theorem co_places_from : compSs 40 cc_places_from (defBody (top 8)) = some ir_places_from := by kernel_rfl
theorem fn_places_from : fnsB cc_places_from.N sig_places_from.ps (defScope (top 8)) = true := by decide +kernel
theorem ar_places_from : ArgsOk "places_from" (top 8) sig_places_from := ⟨fun _ _ _ _ _ _ us hl => match us, hl with | [_, _], _ => rfl, fun n ks pm h => nomatch h⟩
def fs_places_from : List (Str × Sig) := ("places_from", sig_places_from) :: fs_roads_from
/-! ### leads -/
def sig_leads : Sig := ⟨["net", "one", "other"], []⟩
def cc_leads : CC := ⟨defScope (top 9), ["net", "one", "other"], fs_places_from, gs, [], (defScope (top 9)).names, xs⟩
def ir_leads : Ss := (.cons (.ret (.cmp (.ix (.ix (.ix (.v 0) (.c (.int 1))) (.v 2)) (.c (.int 0))) (.one .isin (.call "places_from" (.cons (.v 0) (.cons (.ix (.ix (.ix (.v 0) (.c (.int 1))) (.v 1)) (.c (.int 1))) .nil)))))) .nil)
theorem co_leads : compSs 40 cc_leads (defBody (top 9)) = some ir_leads := by kernel_rfl
theorem fn_leads : fnsB cc_leads.N sig_leads.ps (defScope (top 9)) = true := by decide +kernel
theorem ar_leads : ArgsOk "leads" (top 9) sig_leads := ⟨fun _ _ _ _ _ _ us hl => match us, hl with | [_, _, _], _ => rfl, fun n ks pm h => nomatch h⟩
def fs_leads : List (Str × Sig) := ("leads", sig_leads) :: fs_places_from
/-! ### ways_on -/
def sig_ways_on : Sig := ⟨["net"], []⟩
def cc_ways_on : CC := ⟨defScope (top 10), ["net", "found", "place", "a", "b"], fs_leads, gs, [(25, 12)], (defScope (top 10)).names, xs⟩
def ir_ways_on : Ss := (.cons (.asg (.nm 1) (.mk (.bin .mul (.mk (.lst (.cons (.c (.int 0)) .nil))) (.ix (.v 0) (.c (.int 0)))))) (.cons (.put (.v 1) (.neg (.c (.int 1))) (.c (.int 1))) (.cons (.for (.nm 2) (.rng (.cons (.bin .sub (.ix (.v 0) (.c (.int 0))) (.c (.int 2))) (.cons (.neg (.c (.int 1))) (.cons (.neg (.c (.int 1))) .nil)))) (.cons (.put (.v 1) (.v 2) (.bf .sum (.cons (.lc (.tup (.cons (.nm 3) (.cons (.nm 4) .nil))) (.seq (.ix (.v 0) (.c (.int 1)))) (.some (.cmp (.v 3) (.one .eq (.v 2)))) (.ix (.v 1) (.v 4)) [3, 4]) .nil))) .nil)) (.cons (.ret (.v 1)) .nil))))
theorem co_ways_on : compSs 40 cc_ways_on (defBody (top 10)) = some ir_ways_on := by kernel_rfl
theorem fn_ways_on : fnsB cc_ways_on.N sig_ways_on.ps (defScope (top 10)) = true := by decide +kernel
theorem ar_ways_on : ArgsOk "ways_on" (top 10) sig_ways_on := ⟨fun _ _ _ _ _ _ us hl => match us, hl with | [_], _ => rfl, fun n ks pm h => nomatch h⟩
def fs_ways_on : List (Str × Sig) := ("ways_on", sig_ways_on) :: fs_leads
/-! ### trip_count -/
def sig_trip_count : Sig := ⟨["net"], []⟩
def cc_trip_count : CC := ⟨defScope (top 11), ["net"], fs_ways_on, gs, [], (defScope (top 11)).names, xs⟩
def ir_trip_count : Ss := (.cons (.ret (.ix (.call "ways_on" (.cons (.v 0) .nil)) (.c (.int 0)))) .nil)
theorem co_trip_count : compSs 40 cc_trip_count (defBody (top 11)) = some ir_trip_count := by kernel_rfl
theorem fn_trip_count : fnsB cc_trip_count.N sig_trip_count.ps (defScope (top 11)) = true := by decide +kernel
theorem ar_trip_count : ArgsOk "trip_count" (top 11) sig_trip_count := ⟨fun _ _ _ _ _ _ us hl => match us, hl with | [_], _ => rfl, fun n ks pm h => nomatch h⟩
def fs_trip_count : List (Str × Sig) := ("trip_count", sig_trip_count) :: fs_ways_on
/-! ### trip_at -/
def sig_trip_at : Sig := ⟨["net", "number"], []⟩
def cc_trip_at : CC := ⟨defScope (top 12), ["net", "number", "ways", "found", "place", "left", "roads", "spot"], fs_trip_count, gs, [(36, 26)], (defScope (top 12)).names, xs⟩
def ir_trip_at : Ss := (.cons (.asg (.nm 2) (.call "ways_on" (.cons (.v 0) .nil))) (.cons (.ite (.or (.not (.call "is_integer" (.cons (.v 1) .nil))) (.not (.cmp (.c (.int 0)) (.cons .le (.v 1) (.one .lt (.ix (.v 2) (.c (.int 0)))))))) (.cons (.raise "Unfit" none .nil) .nil) .nil) (.cons (.asg (.tup (.cons (.nm 3) (.cons (.nm 4) (.cons (.nm 5) .nil)))) (.tup (.cons (.mk (.lst .nil)) (.cons (.c (.int 0)) (.cons (.v 1) .nil))))) (.cons (.whl (.cmp (.v 4) (.one .lt (.bin .sub (.ix (.v 0) (.c (.int 0))) (.c (.int 1))))) (.cons (.asg (.tup (.cons (.nm 6) (.cons (.nm 7) .nil))) (.tup (.cons (.call "roads_from" (.cons (.v 0) (.cons (.v 4) .nil))) (.cons (.c (.int 0)) .nil)))) (.cons (.whl (.cmp (.v 5) (.one .ge (.ix (.v 2) (.ix (.ix (.ix (.v 0) (.c (.int 1))) (.ix (.v 6) (.v 7))) (.c (.int 1)))))) (.cons (.asg (.tup (.cons (.nm 5) (.cons (.nm 7) .nil))) (.tup (.cons (.bin .sub (.v 5) (.ix (.v 2) (.ix (.ix (.ix (.v 0) (.c (.int 1))) (.ix (.v 6) (.v 7))) (.c (.int 1))))) (.cons (.bin .add (.v 7) (.c (.int 1))) .nil)))) .nil)) (.cons (.ex (.mt .append (.v 3) (.cons (.ix (.v 6) (.v 7)) .nil))) (.cons (.asg (.nm 4) (.ix (.ix (.ix (.v 0) (.c (.int 1))) (.ix (.v 6) (.v 7))) (.c (.int 1)))) .nil))))) (.cons (.ret (.bf .tuple (.cons (.v 3) .nil))) .nil)))))
theorem co_trip_at : compSs 40 cc_trip_at (defBody (top 12)) = some ir_trip_at := by kernel_rfl
theorem fn_trip_at : fnsB cc_trip_at.N sig_trip_at.ps (defScope (top 12)) = true := by decide +kernel
theorem ar_trip_at : ArgsOk "trip_at" (top 12) sig_trip_at := ⟨fun _ _ _ _ _ _ us hl => match us, hl with | [_, _], _ => rfl, fun n ks pm h => nomatch h⟩
def fs_trip_at : List (Str × Sig) := ("trip_at", sig_trip_at) :: fs_trip_count
/-! ### trip_error -/
def sig_trip_error : Sig := ⟨["net", "value"], []⟩
def cc_trip_error : CC := ⟨defScope (top 13), ["net", "value", "end", "place", "road"], fs_trip_at, gs, [], (defScope (top 13)).names, xs⟩
def ir_trip_error : Ss := (.cons (.ite (.or (.not (.bf .isinst (.cons (.v 1) (.cons (.c (.ty "tuple")) .nil)))) (.not (.cmp (.c (.int 1)) (.cons .le (.bf .len (.cons (.v 1) .nil)) (.one .le (.c (.int 60))))))) (.cons (.ret (.c (.str "form"))) .nil) .nil) (.cons (.for (.tup (.cons (.nm 3) (.cons (.nm 4) .nil))) (.enm (.cons (.v 1) .nil)) (.cons (.ite (.not (.call "is_road" (.cons (.v 0) (.cons (.v 4) .nil)))) (.cons (.ret (.tup (.cons (.c (.str "road")) (.cons (.v 3) .nil)))) .nil) .nil) .nil)) (.cons (.asg (.nm 2) (.c (.int 0))) (.cons (.for (.tup (.cons (.nm 3) (.cons (.nm 4) .nil))) (.enm (.cons (.v 1) .nil)) (.cons (.ite (.cmp (.ix (.ix (.ix (.v 0) (.c (.int 1))) (.v 4)) (.c (.int 0))) (.one .ne (.v 2))) (.cons (.ret (.tup (.cons (.c (.str "joint")) (.cons (.v 3) .nil)))) .nil) .nil) (.cons (.asg (.nm 2) (.ix (.ix (.ix (.v 0) (.c (.int 1))) (.v 4)) (.c (.int 1)))) .nil))) (.cons (.ret (.ite (.cmp (.v 2) (.one .eq (.bin .sub (.ix (.v 0) (.c (.int 0))) (.c (.int 1))))) (.c .non) (.c (.str "out")))) .nil)))))
theorem co_trip_error : compSs 40 cc_trip_error (defBody (top 13)) = some ir_trip_error := by kernel_rfl
theorem fn_trip_error : fnsB cc_trip_error.N sig_trip_error.ps (defScope (top 13)) = true := by decide +kernel
theorem ar_trip_error : ArgsOk "trip_error" (top 13) sig_trip_error := ⟨fun _ _ _ _ _ _ us hl => match us, hl with | [_, _], _ => rfl, fun n ks pm h => nomatch h⟩
def fs_trip_error : List (Str × Sig) := ("trip_error", sig_trip_error) :: fs_trip_at
/-! ### _law_deck -/
def sig_law_deck : Sig := ⟨["_law_script"], []⟩
def cc_law_deck : CC := ⟨defScope (top 15), ["_law_script", "_law_deck_here", "_law_cell", "_law_whole"], fs_trip_error, gs, [(58, 21), (58, 31)], (defScope (top 15)).names, xs⟩
def ir_law_deck : Ss := (.cons (.asg (.nm 1) (.mk (.dct (.cons (.c (.str "great")) (.mk (.lst .nil)) (.cons (.c (.str "mixed")) (.bin .add (.c (.int 1283)) (.bf .len (.cons (.sl (.v 0) .none (.some (.c (.int 63)))) .nil))) (.cons (.c (.str "turns")) (.c (.int 0)) .nil)))))) (.cons (.for (.nm 2) (.seq (.sl (.v 0) .none (.some (.c (.int 63))))) (.cons (.asg (.nm 3) (.bin .add (.bin .mul (.c (.int 2)) (.bf .abs (.cons (.v 2) .nil))) (.bf .int (.cons (.cmp (.v 2) (.one .lt (.c (.int 0)))) .nil)))) (.cons (.ite (.cmp (.v 3) (.one .ge (.bin .pow (.c (.int 10)) (.c (.int 16))))) (.cons (.ex (.mt .append (.ix (.v 1) (.c (.str "great"))) (.cons (.v 3) .nil))) .nil) .nil) (.cons (.put (.v 1) (.c (.str "mixed")) (.bin .mod (.bf .int (.cons (.bin .add (.bin .add (.bin .mul (.ix (.v 1) (.c (.str "mixed"))) (.c (.int 75161))) (.v 3)) (.c (.int 11))) .nil)) (.c (.int 4294967291)))) .nil)))) (.cons (.ret (.v 1)) .nil)))
theorem co_law_deck : compSs 40 cc_law_deck (defBody (top 15)) = some ir_law_deck := by kernel_rfl
theorem fn_law_deck : fnsB cc_law_deck.N sig_law_deck.ps (defScope (top 15)) = true := by decide +kernel
theorem ar_law_deck : ArgsOk "_law_deck" (top 15) sig_law_deck := ⟨fun _ _ _ _ _ _ us hl => match us, hl with | [_], _ => rfl, fun n ks pm h => nomatch h⟩
def fs_law_deck : List (Str × Sig) := ("_law_deck", sig_law_deck) :: fs_trip_error
/-! ### _law_draw -/
def sig_law_draw : Sig := ⟨["_law_deck_here", "_law_many"], []⟩
def cc_law_draw : CC := ⟨defScope (top 16), ["_law_deck_here", "_law_many", "_law_number", "_law_whole"], fs_law_deck, gs, [], (defScope (top 16)).names, xs⟩
def ir_law_draw : Ss := (.cons (.ite (.cmp (.v 1) (.one .lt (.c (.int 2)))) (.cons (.ret (.c (.int 0))) .nil) .nil) (.cons (.ite (.cmp (.ix (.v 0) (.c (.str "great"))) (.one .ne (.lst .nil))) (.cons (.asg (.nm 3) (.mt .pop (.ix (.v 0) (.c (.str "great"))) .nil)) (.cons (.ite (.cmp (.v 3) (.one .ge (.v 1))) (.cons (.ex (.mt .append (.ix (.v 0) (.c (.str "great"))) (.cons (.bin .fdiv (.v 3) (.v 1)) .nil))) .nil) .nil) (.cons (.ret (.bin .mod (.bf .int (.cons (.v 3) .nil)) (.v 1))) .nil))) .nil) (.cons (.put (.v 0) (.c (.str "turns")) (.bin .add (.ix (.v 0) (.c (.str "turns"))) (.c (.int 1)))) (.cons (.asg (.nm 2) (.bin .mod (.bf .int (.cons (.bin .add (.ix (.v 0) (.c (.str "mixed"))) (.bin .mul (.c (.int 2654435761)) (.ix (.v 0) (.c (.str "turns"))))) .nil)) (.c (.int 4294967279)))) (.cons (.asg (.nm 2) (.bin .mod (.bf .int (.cons (.bin .add (.bin .add (.bin .mul (.v 2) (.v 2)) (.bin .mul (.c (.int 40503)) (.ix (.v 0) (.c (.str "turns"))))) (.c (.int 19))) .nil)) (.c (.int 4294967231)))) (.cons (.asg (.nm 2) (.bin .mod (.bf .int (.cons (.bin .add (.bin .mul (.v 2) (.v 2)) (.bin .mul (.ix (.v 0) (.c (.str "mixed"))) (.c (.int 7)))) .nil)) (.c (.int 4294967197)))) (.cons (.ret (.bin .mod (.bf .int (.cons (.bin .fdiv (.v 2) (.c (.int 64))) .nil)) (.v 1))) .nil)))))))
theorem co_law_draw : compSs 40 cc_law_draw (defBody (top 16)) = some ir_law_draw := by kernel_rfl
theorem fn_law_draw : fnsB cc_law_draw.N sig_law_draw.ps (defScope (top 16)) = true := by decide +kernel
theorem ar_law_draw : ArgsOk "_law_draw" (top 16) sig_law_draw := ⟨fun _ _ _ _ _ _ us hl => match us, hl with | [_, _], _ => rfl, fun n ks pm h => nomatch h⟩
def fs_law_draw : List (Str × Sig) := ("_law_draw", sig_law_draw) :: fs_law_deck
/-! ### _law_pick -/
def sig_law_pick : Sig := ⟨["_law_deck_here", "_law_items"], []⟩
def cc_law_pick : CC := ⟨defScope (top 17), ["_law_deck_here", "_law_items"], fs_law_draw, gs, [], (defScope (top 17)).names, xs⟩
def ir_law_pick : Ss := (.cons (.ret (.ix (.v 1) (.call "_law_draw" (.cons (.v 0) (.cons (.bf .len (.cons (.v 1) .nil)) .nil))))) .nil)
theorem co_law_pick : compSs 40 cc_law_pick (defBody (top 17)) = some ir_law_pick := by kernel_rfl
theorem fn_law_pick : fnsB cc_law_pick.N sig_law_pick.ps (defScope (top 17)) = true := by decide +kernel
theorem ar_law_pick : ArgsOk "_law_pick" (top 17) sig_law_pick := ⟨fun _ _ _ _ _ _ us hl => match us, hl with | [_, _], _ => rfl, fun n ks pm h => nomatch h⟩
def fs_law_pick : List (Str × Sig) := ("_law_pick", sig_law_pick) :: fs_law_draw
/-! ### _law_shuffled -/
def sig_law_shuffled : Sig := ⟨["_law_deck_here", "_law_items"], []⟩
def cc_law_shuffled : CC := ⟨defScope (top 18), ["_law_deck_here", "_law_items", "_law_left", "_law_rest"], fs_law_pick, gs, [(81, 28), (81, 46)], (defScope (top 18)).names, xs⟩
def ir_law_shuffled : Ss := (.cons (.asg (.tup (.cons (.nm 2) (.cons (.nm 3) .nil))) (.tup (.cons (.mk (.bf .list (.cons (.v 1) .nil))) (.cons (.mk (.lst .nil)) .nil)))) (.cons (.whl (.cmp (.v 2) (.one .ne (.lst .nil))) (.cons (.ex (.mt .append (.v 3) (.cons (.mt .pop (.v 2) (.cons (.call "_law_draw" (.cons (.v 0) (.cons (.bf .len (.cons (.v 2) .nil)) .nil))) .nil)) .nil))) .nil)) (.cons (.ret (.v 3)) .nil)))
theorem co_law_shuffled : compSs 40 cc_law_shuffled (defBody (top 18)) = some ir_law_shuffled := by kernel_rfl
theorem fn_law_shuffled : fnsB cc_law_shuffled.N sig_law_shuffled.ps (defScope (top 18)) = true := by decide +kernel
theorem ar_law_shuffled : ArgsOk "_law_shuffled" (top 18) sig_law_shuffled := ⟨fun _ _ _ _ _ _ us hl => match us, hl with | [_, _], _ => rfl, fun n ks pm h => nomatch h⟩
def fs_law_shuffled : List (Str × Sig) := ("_law_shuffled", sig_law_shuffled) :: fs_law_pick
/-! ### _law_net -/
def sig_law_net : Sig := ⟨["_law_deck_here", "_law_many", "_law_more"], []⟩
def cc_law_net : CC := ⟨defScope (top 19), ["_law_deck_here", "_law_many", "_law_more", "_law_inner", "_law_turn", "_law_pairs", "_law_spine", "_law_first", "_law_second", "_law_foot", "_law_head", "_law_place"], fs_law_shuffled, gs, [(87, 66), (94, 17)], (defScope (top 19)).names, xs⟩
def ir_law_net : Ss := (.cons (.asg (.nm 3) (.lc (.nm 11) (.rng (.cons (.c (.int 1)) (.cons (.bin .sub (.v 1) (.c (.int 1))) .nil))) (.some (.cmp (.call "_law_draw" (.cons (.v 0) (.cons (.c (.int 2)) .nil))) (.one .eq (.c (.int 0))))) (.v 11) [11])) (.cons (.asg (.tup (.cons (.nm 6) (.cons (.nm 5) .nil))) (.tup (.cons (.bin .add (.bin .add (.lst (.cons (.c (.int 0)) .nil)) (.v 3)) (.lst (.cons (.bin .sub (.v 1) (.c (.int 1))) .nil))) (.cons (.mk (.lst .nil)) .nil)))) (.cons (.for (.tup (.cons (.nm 7) (.cons (.nm 8) .nil))) (.zip (.cons (.v 6) (.cons (.sl (.v 6) (.some (.c (.int 1))) .none) .nil))) (.cons (.ex (.mt .append (.v 5) (.cons (.tup (.cons (.v 7) (.cons (.v 8) .nil))) .nil))) .nil)) (.cons (.for (.nm 4) (.rng (.cons (.v 2) .nil)) (.cons (.asg (.nm 9) (.call "_law_draw" (.cons (.v 0) (.cons (.bin .sub (.v 1) (.c (.int 1))) .nil)))) (.cons (.asg (.nm 10) (.bin .add (.bin .add (.v 9) (.c (.int 1))) (.call "_law_draw" (.cons (.v 0) (.cons (.bin .sub (.bin .sub (.v 1) (.c (.int 1))) (.v 9)) .nil))))) (.cons (.ex (.mt .append (.v 5) (.cons (.ite (.cmp (.call "_law_draw" (.cons (.v 0) (.cons (.c (.int 5)) .nil))) (.one .eq (.c (.int 0)))) (.call "_law_pick" (.cons (.v 0) (.cons (.v 5) .nil))) (.tup (.cons (.v 9) (.cons (.v 10) .nil)))) .nil))) .nil)))) (.cons (.asg (.nm 5) (.mk (.call "_law_shuffled" (.cons (.v 0) (.cons (.v 5) .nil))))) (.cons (.ret (.tup (.cons (.v 1) (.cons (.bf .tuple (.cons (.ite (.and (.cmp (.bf .len (.cons (.v 5) .nil)) (.one .gt (.c (.int 1)))) (.cmp (.call "_law_draw" (.cons (.v 0) (.cons (.c (.int 6)) .nil))) (.one .eq (.c (.int 0))))) (.sl (.v 5) (.some (.c (.int 1))) .none) (.v 5)) .nil)) .nil)))) .nil))))))
theorem co_law_net : compSs 40 cc_law_net (defBody (top 19)) = some ir_law_net := by kernel_rfl
theorem fn_law_net : fnsB cc_law_net.N sig_law_net.ps (defScope (top 19)) = true := by decide +kernel
theorem ar_law_net : ArgsOk "_law_net" (top 19) sig_law_net := ⟨fun _ _ _ _ _ _ us hl => match us, hl with | [_, _, _], _ => rfl, fun n ks pm h => nomatch h⟩
def fs_law_net : List (Str × Sig) := ("_law_net", sig_law_net) :: fs_law_shuffled
/-! ### _law_trips -/
def sig_law_trips : Sig := ⟨["_law_net_here"], []⟩
def cc_law_trips : CC := ⟨defScope (top 20), ["_law_net_here", "_law_many", "_law_pairs", "_law_ways", "_law_found", "_law_longer", "_law_way", "_law_at", "_law_road", "_law_pair"], fs_law_net, gs, [(98, 35)], (defScope (top 20)).names, xs⟩
def ir_law_trips : Ss := (.cons (.asg (.tup (.cons (.nm 1) (.cons (.nm 2) .nil))) (.v 0)) (.cons (.asg (.tup (.cons (.nm 3) (.cons (.nm 4) .nil))) (.tup (.cons (.lst (.cons (.tup .nil) .nil)) (.cons (.mk (.lst .nil)) .nil)))) (.cons (.whl (.cmp (.v 3) (.one .ne (.lst .nil))) (.cons (.asg (.nm 5) (.lst .nil)) (.cons (.for (.nm 6) (.seq (.v 3)) (.cons (.asg (.nm 7) (.ite (.cmp (.v 6) (.one .eq (.tup .nil))) (.c (.int 0)) (.ix (.ix (.v 2) (.ix (.v 6) (.neg (.c (.int 1))))) (.c (.int 1))))) (.cons (.ite (.cmp (.v 7) (.one .eq (.bin .sub (.v 1) (.c (.int 1))))) (.cons (.ex (.mt .append (.v 4) (.cons (.v 6) .nil))) .nil) (.cons (.asg (.nm 5) (.bin .add (.v 5) (.lc (.tup (.cons (.nm 8) (.cons (.nm 9) .nil))) (.enm (.cons (.v 2) .nil)) (.some (.cmp (.ix (.v 9) (.c (.int 0))) (.one .eq (.v 7)))) (.bin .add (.v 6) (.tup (.cons (.v 8) .nil))) [8, 9]))) .nil)) .nil))) (.cons (.asg (.nm 3) (.v 5)) .nil)))) (.cons (.ret (.bf .sorted (.cons (.v 4) .nil))) .nil))))
theorem co_law_trips : compSs 40 cc_law_trips (defBody (top 20)) = some ir_law_trips := by kernel_rfl
theorem fn_law_trips : fnsB cc_law_trips.N sig_law_trips.ps (defScope (top 20)) = true := by decide +kernel
theorem ar_law_trips : ArgsOk "_law_trips" (top 20) sig_law_trips := ⟨fun _ _ _ _ _ _ us hl => match us, hl with | [_], _ => rfl, fun n ks pm h => nomatch h⟩
def fs_law_trips : List (Str × Sig) := ("_law_trips", sig_law_trips) :: fs_law_net
/-! ### _law_are_together -/
def sig_law_are_together : Sig := ⟨["_law_net_here", "_law_trips_here"], []⟩
def cc_law_are_together : CC := ⟨defScope (top 21), ["_law_net_here", "_law_trips_here", "_law_used", "_law_one", "_law_other", "_law_road", "_law_both", "_law_there", "_law_back", "_law_trip"], fs_law_trips, gs, [], (defScope (top 21)).names, xs⟩
def ir_law_are_together : Ss := (.cons (.asg (.nm 2) (.lc (.nm 5) (.rng (.cons (.bf .len (.cons (.ix (.v 0) (.c (.int 1))) .nil)) .nil)) (.some (.cmp (.lc (.nm 9) (.seq (.v 1)) (.some (.cmp (.v 5) (.one .isin (.v 9)))) (.v 9) [9]) (.one .ne (.lst .nil)))) (.v 5) [5])) (.cons (.for (.nm 3) (.seq (.v 2)) (.cons (.for (.nm 4) (.seq (.v 2)) (.cons (.asg (.nm 6) (.cmp (.lc (.nm 9) (.seq (.v 1)) (.some (.and (.cmp (.v 3) (.one .isin (.v 9))) (.cmp (.v 4) (.one .isin (.v 9))))) (.v 9) [9]) (.one .ne (.lst .nil)))) (.cons (.asg (.tup (.cons (.nm 7) (.cons (.nm 8) .nil))) (.tup (.cons (.call "leads" (.cons (.v 0) (.cons (.v 3) (.cons (.v 4) .nil)))) (.cons (.call "leads" (.cons (.v 0) (.cons (.v 4) (.cons (.v 3) .nil)))) .nil)))) (.cons (.ite (.or (.and (.v 7) (.v 8)) (.cmp (.v 6) (.one .ne (.or (.cmp (.v 3) (.one .eq (.v 4))) (.or (.v 7) (.v 8)))))) (.cons (.ret (.c (.bl false))) .nil) .nil) (.cons (.ite (.and (.v 7) (.cmp (.ix (.ix (.ix (.v 0) (.c (.int 1))) (.v 3)) (.c (.int 1))) (.one .gt (.ix (.ix (.ix (.v 0) (.c (.int 1))) (.v 4)) (.c (.int 0)))))) (.cons (.ret (.c (.bl false))) .nil) .nil) .nil))))) .nil)) (.cons (.ret (.c (.bl true))) .nil)))
theorem co_law_are_together : compSs 40 cc_law_are_together (defBody (top 21)) = some ir_law_are_together := by kernel_rfl
theorem fn_law_are_together : fnsB cc_law_are_together.N sig_law_are_together.ps (defScope (top 21)) = true := by decide +kernel
theorem ar_law_are_together : ArgsOk "_law_are_together" (top 21) sig_law_are_together := ⟨fun _ _ _ _ _ _ us hl => match us, hl with | [_, _], _ => rfl, fun n ks pm h => nomatch h⟩
def fs_law_are_together : List (Str × Sig) := ("_law_are_together", sig_law_are_together) :: fs_law_trips
/-! ### _law_goes_over -/
def sig_law_goes_over : Sig := ⟨["_law_deck_here", "_law_net_here"], []⟩
def cc_law_goes_over : CC := ⟨defScope (top 22), ["_law_deck_here", "_law_net_here", "_law_turn", "_law_a", "_law_b", "_law_c", "_law_spot"], fs_law_are_together, gs, [], (defScope (top 22)).names, xs⟩
def ir_law_goes_over : Ss := (.cons (.for (.nm 2) (.rng (.cons (.c (.int 12)) .nil)) (.cons (.asg (.tup (.cons (.nm 3) (.cons (.nm 4) (.cons (.nm 5) .nil)))) (.lc (.nm 6) (.rng (.cons (.c (.int 3)) .nil)) .none (.call "_law_draw" (.cons (.v 0) (.cons (.bf .len (.cons (.ix (.v 1) (.c (.int 1))) .nil)) .nil))) [6])) (.cons (.ite (.and (.call "leads" (.cons (.v 1) (.cons (.v 3) (.cons (.v 4) .nil)))) (.and (.call "leads" (.cons (.v 1) (.cons (.v 4) (.cons (.v 5) .nil)))) (.not (.call "leads" (.cons (.v 1) (.cons (.v 3) (.cons (.v 5) .nil))))))) (.cons (.ret (.c (.bl false))) .nil) .nil) .nil))) (.cons (.ret (.c (.bl true))) .nil))
theorem co_law_goes_over : compSs 40 cc_law_goes_over (defBody (top 22)) = some ir_law_goes_over := by kernel_rfl
theorem fn_law_goes_over : fnsB cc_law_goes_over.N sig_law_goes_over.ps (defScope (top 22)) = true := by decide +kernel
theorem ar_law_goes_over : ArgsOk "_law_goes_over" (top 22) sig_law_goes_over := ⟨fun _ _ _ _ _ _ us hl => match us, hl with | [_, _], _ => rfl, fun n ks pm h => nomatch h⟩
def fs_law_goes_over : List (Str × Sig) := ("_law_goes_over", sig_law_goes_over) :: fs_law_are_together
/-! ### _law_are_trips_so -/
def sig_law_are_trips_so : Sig := ⟨["_law_net_here", "_law_trips_here"], []⟩
def cc_law_are_trips_so : CC := ⟨defScope (top 23), ["_law_net_here", "_law_trips_here", "_law_number", "_law_trip", "_law_told", "_law_feet", "_law_road"], fs_law_goes_over, gs, [], (defScope (top 23)).names, xs⟩
def ir_law_are_trips_so : Ss := (.cons (.ite (.cmp (.call "trip_count" (.cons (.v 0) .nil)) (.one .ne (.bf .len (.cons (.v 1) .nil)))) (.cons (.ret (.c (.bl false))) .nil) .nil) (.cons (.for (.tup (.cons (.nm 2) (.cons (.nm 3) .nil))) (.enm (.cons (.sl (.v 1) .none (.some (.c (.int 15)))) .nil)) (.cons (.asg (.nm 4) (.call "trip_at" (.cons (.v 0) (.cons (.v 2) .nil)))) (.cons (.ite (.or (.cmp (.v 4) (.one .ne (.v 3))) (.or (.cmp (.call "trip_error" (.cons (.v 0) (.cons (.v 4) .nil))) (.one .isnot (.c .non))) (.cmp (.bf .len (.cons (.v 4) .nil)) (.one .gt (.bin .sub (.ix (.v 0) (.c (.int 0))) (.c (.int 1))))))) (.cons (.ret (.c (.bl false))) .nil) .nil) (.cons (.asg (.nm 5) (.lc (.nm 6) (.seq (.v 4)) .none (.ix (.ix (.ix (.v 0) (.c (.int 1))) (.v 6)) (.c (.int 0))) [6])) (.cons (.ite (.or (.cmp (.v 5) (.one .ne (.sset (.cons (.v 5) .nil)))) (.or (.cmp (.ix (.v 5) (.c (.int 0))) (.one .ne (.c (.int 0)))) (.cmp (.ix (.ix (.ix (.v 0) (.c (.int 1))) (.ix (.v 4) (.neg (.c (.int 1))))) (.c (.int 1))) (.one .ne (.bin .sub (.ix (.v 0) (.c (.int 0))) (.c (.int 1))))))) (.cons (.ret (.c (.bl false))) .nil) .nil) .nil))))) (.cons (.ret (.c (.bl true))) .nil)))
theorem co_law_are_trips_so : compSs 40 cc_law_are_trips_so (defBody (top 23)) = some ir_law_are_trips_so := by kernel_rfl
theorem fn_law_are_trips_so : fnsB cc_law_are_trips_so.N sig_law_are_trips_so.ps (defScope (top 23)) = true := by decide +kernel
theorem ar_law_are_trips_so : ArgsOk "_law_are_trips_so" (top 23) sig_law_are_trips_so := ⟨fun _ _ _ _ _ _ us hl => match us, hl with | [_, _], _ => rfl, fun n ks pm h => nomatch h⟩
def fs_law_are_trips_so : List (Str × Sig) := ("_law_are_trips_so", sig_law_are_trips_so) :: fs_law_goes_over
/-! ### law -/
def sig_law : Sig := ⟨["_law_script"], []⟩
def cc_law : CC := ⟨defScope (top 24), ["_law_script", "_law_deck_here", "_law_turn", "_law_net_here", "_law_known", "_law_trips_here"], fs_law_are_trips_so, gs, [], (defScope (top 24)).names, xs⟩
def ir_law : Ss := (.cons (.asg (.nm 1) (.call "_law_deck" (.cons (.v 0) .nil))) (.cons (.for (.nm 2) (.rng (.cons (.c (.int 5)) .nil)) (.cons (.asg (.nm 3) (.call "_law_net" (.cons (.v 1) (.cons (.call "_law_pick" (.cons (.v 1) (.cons (.lst (.cons (.c (.int 2)) (.cons (.c (.int 3)) (.cons (.c (.int 4)) (.cons (.c (.int 5)) (.cons (.c (.int 6)) (.cons (.c (.int 7)) .nil))))))) .nil))) (.cons (.call "_law_pick" (.cons (.v 1) (.cons (.lst (.cons (.c (.int 0)) (.cons (.c (.int 1)) (.cons (.c (.int 3)) (.cons (.c (.int 5)) (.cons (.c (.int 6)) .nil)))))) .nil))) .nil))))) (.cons (.asg (.tup (.cons (.nm 4) (.cons (.nm 5) .nil))) (.tup (.cons (.bf .repr (.cons (.v 3) .nil)) (.cons (.call "_law_trips" (.cons (.v 3) .nil)) .nil)))) (.cons (.ite (.or (.not (.call "_law_are_together" (.cons (.v 3) (.cons (.v 5) .nil)))) (.or (.not (.call "_law_goes_over" (.cons (.v 1) (.cons (.v 3) .nil)))) (.not (.call "_law_are_trips_so" (.cons (.v 3) (.cons (.v 5) .nil)))))) (.cons (.ret (.c (.bl false))) .nil) .nil) (.cons (.ite (.cmp (.bf .repr (.cons (.v 3) .nil)) (.one .ne (.v 4))) (.cons (.ret (.c (.bl false))) .nil) .nil) .nil))))) (.cons (.ret (.c (.bl true))) .nil)))
theorem co_law : compSs 40 cc_law (defBody (top 24)) = some ir_law := by kernel_rfl
theorem fn_law : fnsB cc_law.N sig_law.ps (defScope (top 24)) = true := by decide +kernel
theorem ar_law : ArgsOk "law" (top 24) sig_law := ⟨fun _ _ _ _ _ _ us hl => match us, hl with | [_], _ => rfl, fun n ks pm h => nomatch h⟩
def fs_law : List (Str × Sig) := ("law", sig_law) :: fs_law_are_trips_so
end LK

set_option Elab.async false
set_option maxRecDepth 100000
set_option linter.all false
namespace LK
open PySem L2 Lay RZ PyProof.Rows
/-! the deck at cells 0 and 1 -/
structure Dk where
  gs : List Int
  mx : Int
  t : Int
def Dk.dic (s : Dk) : List (Key × D) := [(.inr "great", .loc 1), (.inr "mixed", .int s.mx), (.inr "turns", .int s.t)]
def Dk.mem (s : Dk) : Mem := [.dic s.dic, .lst (s.gs.map .int)]
structure Dk.Ok (s : Dk) : Prop where
  m0 : 0 ≤ s.mx
  m1 : s.mx < 4294967291
  len : s.gs.length ≤ 63
  pos : ∀ g ∈ s.gs, 0 ≤ g
theorem lk_great (s : Dk) : lookK s.dic (.inr "great") = some (.loc 1) := by rfl
theorem lk_mixed (s : Dk) : lookK s.dic (.inr "mixed") = some (.int s.mx) := by
  have h1 : ¬ (Sum.inr ("great" : Str) : Key) = Sum.inr ("mixed" : Str) := by decide +kernel
  simp [lookK, Dk.dic, h1]
theorem lk_turns (s : Dk) : lookK s.dic (.inr "turns") = some (.int s.t) := by
  have h1 : ¬ (Sum.inr ("great" : Str) : Key) = Sum.inr ("turns" : Str) := by decide +kernel
  have h2 : ¬ (Sum.inr ("mixed" : Str) : Key) = Sum.inr ("turns" : Str) := by decide +kernel
  simp [lookK, Dk.dic, h1, h2]
theorem pt_turns (s : Dk) (i : Int) : putK' s.dic (.inr "turns") (.int i) = ({ s with t := i } : Dk).dic := by
  have h1 : ¬ (Sum.inr ("great" : Str) : Key) = Sum.inr ("turns" : Str) := by decide +kernel
  have h2 : ¬ (Sum.inr ("mixed" : Str) : Key) = Sum.inr ("turns" : Str) := by decide +kernel
  simp [putK', Dk.dic, h1, h2]
theorem pt_mixed (s : Dk) (i : Int) : putK' s.dic (.inr "mixed") (.int i) = ({ s with mx := i } : Dk).dic := by
  have h1 : ¬ (Sum.inr ("great" : Str) : Key) = Sum.inr ("mixed" : Str) := by decide +kernel
  have h2 : ¬ (Sum.inr ("turns" : Str) : Key) = Sum.inr ("mixed" : Str) := by decide +kernel
  simp [putK', Dk.dic, h1, h2]
theorem ints_py {M : Mem} : ∀ gs : List Int, Pys M (gs.map D.int) (gs.map PyData.int)
  | [] => .nil
  | g :: gs => .cons (.int g) (ints_py gs)
theorem ints_shp (gs : List Int) : SeqAt.shaped (.list (gs.map PyData.int)) = true := by
  have h1 : ∀ gs : List Int, PyData.canLayAll0 (gs.map PyData.int) = true := by
    intro gs; induction gs with
    | nil => rfl
    | cons g gs ih => simp [PyData.canLayAll0, PyData.canLay0, ih]
  have h2 : ∀ gs : List Int, PyData.depthAll (gs.map PyData.int) = 0 := by
    intro gs; induction gs with
    | nil => rfl
    | cons g gs ih => simp [PyData.depthAll, PyData.depth, ih]
  simp [SeqAt.shaped, PyData.canLay0, PyData.depth, h1, h2]
def sp_draw : SD := fun ds M _ Q => ∃ (s : Dk) (n : Int) (R : Mem), ds = [.loc 0, .int n] ∧ M = s.mem ++ R ∧ s.Ok ∧ n < 2 ^ 63 ∧ ∀ (v : Int) (s' : Dk), s'.Ok → 0 ≤ v → (v < n ∨ v = 0) → Q (.int v) (s'.mem ++ R)
theorem kept_deck {s s' : Dk} {R ex : Mem} : Kept (s.mem ++ R) (s'.mem ++ R) (s'.mem ++ R) := by
  refine ⟨by simp [Dk.mem], fun n c e => ?_⟩
  match n, e with
  | 0, e =>
    cases e
    exact .inr fun p hp => .cons (.loc (by simp [Dk.mem]) (by simp [Dk.mem] at hp; omega)) (.cons (.int _) (.cons (.int _) .nil))
  | 1, e =>
    cases e
    refine .inr fun p hp => Fzs.self _ ?_
    have : ∀ gs : List Int, noLocs (gs.map D.int) = true := by
      intro gs; induction gs with
      | nil => rfl
      | cons g gs ih => simp [noLocs, noLoc, ih]
    exact this _
  | n + 2, e => exact .inl e
theorem ret_deck {s s' : Dk} {R : Mem} {d : D} {Q : Kd} (h : noLoc d = true) (q : Q d (s'.mem ++ R)) : Ret (s.mem ++ R) Q d (s'.mem ++ R) := ⟨s'.mem ++ R, [], by simp, kept_deck (ex := []), .inl ⟨d, Fz.self d h, q⟩⟩
section
variable {s : Dk} {R : Mem} {Q : Kd} {Qd : D → Prop} {Qm : Mem → Prop} {i : Int}
theorem ix_great : opIx (.loc 0) (.str "great") (s.mem ++ R) Qd ↔ Qd (.loc 1) := ix_dic_iff rfl rfl (lk_great s)
theorem ix_mixed : opIx (.loc 0) (.str "mixed") (s.mem ++ R) Qd ↔ Qd (.int s.mx) := ix_dic_iff rfl rfl (lk_mixed s)
theorem ix_turns : opIx (.loc 0) (.str "turns") (s.mem ++ R) Qd ↔ Qd (.int s.t) := ix_dic_iff rfl rfl (lk_turns s)
theorem put_turns (q : Qm (({ s with t := i } : Dk).mem ++ R)) : opSet (.loc 0) (.str "turns") (.int i) (s.mem ++ R) Qm := by
  refine put_dic rfl rfl (by show 3 < sizeLine; rw [sizeLine_eq]; decide) ?_
  rw [pt_turns]; exact q
theorem put_mixed (q : Qm (({ s with mx := i } : Dk).mem ++ R)) : opSet (.loc 0) (.str "mixed") (.int i) (s.mem ++ R) Qm := by
  refine put_dic rfl rfl (by show 3 < sizeLine; rw [sizeLine_eq]; decide) ?_
  rw [pt_mixed]; exact q
theorem great_ne {Qb : Bool → Prop} (q : Qb (!s.gs.isEmpty)) : opC .ne (.loc 1) (.lst []) (s.mem ++ R) Qb := by
  refine ne_nil (n := 1) rfl (ints_py s.gs) (ints_shp _) ?_
  simpa using q
theorem great_at : ∃ n xs, D.loc 1 = .loc n ∧ (s.mem ++ R)[n]? = some (Cell.lst xs) := ⟨1, _, rfl, rfl⟩
theorem great_pop {gs : List Int} {g : Int} (e : s.gs = gs ++ [g]) (q : Q (.int g) (({ s with gs := gs } : Dk).mem ++ R)) : opM .pop (.loc 1) [] (s.mem ++ R) Q := by
  refine pop_of (n := 1) (x := .int g) rfl (by rw [e]; simp) ?_
  rw [e, List.map_append, List.map_cons, List.map_nil, List.dropLast_concat]
  exact q
theorem great_app (h : s.gs.length < sizeLine) (q : Q .non (({ s with gs := s.gs ++ [i] } : Dk).mem ++ R)) : opM .append (.loc 1) [.int i] (s.mem ++ R) Q := by
  refine app_of (n := 1) rfl (by simpa using h) ?_
  have e : s.gs.map D.int ++ [D.int i] = (s.gs ++ [i]).map D.int := by simp
  rw [e]
  exact q
end
theorem z63 : (63 : Nat) < sizeLine := by rw [sizeLine_eq]; decide
theorem w_draw (Γ : Gam) (ds : List D) (M : Mem) (X : XP) (Q : Kd) (hl : ds.length = sig_law_draw.ps.length) (h : sp_draw ds M X Q) : wss Γ ir_law_draw (bodyPo M X Q) (startD cc_law_draw.N ds) M := by
  obtain ⟨s, n, R, rfl, rfl, ok, hn, q⟩ := h
  unfold ir_law_draw cc_law_draw
  simp only [wss, ws, wp, wps, wpO, wpK, wpP, wpC, wpI, wpTg, wpTgs, bodyPo, startD, shr_non, shr_bl, shr_int, shr_str, shr_ty, shr_tup, shr_lst, shr_fz, shr_dct, shr_loc, shr_fr, truth_bl, true_and, add_ii, sub_ii, mul_ii, fdiv_ii, mod_ii, pow_ii, lt_ii, le_ii, gt_ii, ge_ii, len_t, abs_i, int_i, int_b, Es.len, List.map_cons, List.map_nil, List.length_cons, List.length_nil, List.cons_append, List.nil_append, List.replicate_succ, List.replicate_zero, List.getElem?_cons_zero, List.getElem?_cons_succ, List.set_cons_zero, List.set_cons_succ, Option.some.injEq, exists_eq_left', Nat.zero_add, Nat.reduceAdd, Nat.reduceSub]
  split
  · rename_i h2
    exact ret_deck rfl (q 0 s ok (Int.le_refl _) (.inr rfl))
  · rename_i h2
    have hn2 : 2 ≤ n := by simpa using h2
    simp only [shr_non, shr_bl, shr_int, shr_str, shr_ty, shr_tup, shr_lst, shr_fz, shr_dct, shr_loc, shr_fr, truth_bl, true_and, add_ii, sub_ii, mul_ii, fdiv_ii, mod_ii, pow_ii, lt_ii, le_ii, gt_ii, ge_ii, len_t, abs_i, int_i, int_b, ix_great]
    refine ⟨Nat.zero_le _, great_ne ?_⟩
    split
    · rename_i hg
      obtain ⟨gs, g, eg⟩ : ∃ gs g, s.gs = gs ++ [g] := by
        rcases List.eq_nil_or_concat s.gs with z | ⟨gs, g, z⟩
        · rw [z] at hg; cases hg
        · exact ⟨gs, g, by rw [z, List.concat_eq_append]⟩
      have hpos : 0 ≤ g := ok.pos g (by rw [eg]; simp)
      have hlen : gs.length + 1 ≤ 63 := by have := ok.len; rw [eg] at this; simpa using this
      refine ⟨great_at, great_pop eg ?_⟩
      simp only [shr_non, shr_bl, shr_int, shr_str, shr_ty, shr_tup, shr_lst, shr_fz, shr_dct, shr_loc, shr_fr, truth_bl, true_and, add_ii, sub_ii, mul_ii, fdiv_ii, mod_ii, pow_ii, lt_ii, le_ii, gt_ii, ge_ii, len_t, abs_i, int_i, int_b, ix_great]
      have hv : ∀ s' : Dk, s'.Ok → Ret (s.mem ++ R) Q (.int (g % n)) (s'.mem ++ R) := fun s' ok' => ret_deck rfl (q _ s' ok' (Int.emod_nonneg _ (by omega)) (.inl (Int.emod_lt_of_pos _ (by omega))))
      split
      · refine ⟨great_at, by omega, ?_, ?_⟩
        · exact Nat.lt_of_lt_of_le (Nat.log2_lt (by omega) |>.mpr (show n.natAbs < 2 ^ 63 by omega)) (by decide)
        · refine great_app (by have := z63; show gs.length < _; omega) ?_
          simp only [shr_non, shr_bl, shr_int, shr_str, shr_ty, shr_tup, shr_lst, shr_fz, shr_dct, shr_loc, shr_fr, truth_bl, true_and, add_ii, sub_ii, mul_ii, fdiv_ii, mod_ii, pow_ii, lt_ii, le_ii, gt_ii, ge_ii, len_t, abs_i, int_i, int_b]
          refine ⟨by omega, hv ⟨gs ++ [g / n], s.mx, s.t⟩ ⟨ok.m0, ok.m1, by simpa using hlen, fun x hx => ?_⟩⟩
          rcases List.mem_append.mp hx with z | z
          · exact ok.pos x (by rw [eg]; exact List.mem_append_left _ z)
          · rw [List.mem_singleton.mp z]; exact Int.ediv_nonneg hpos (by omega)
      · refine ⟨by omega, hv ⟨gs, s.mx, s.t⟩ ⟨ok.m0, ok.m1, by show gs.length ≤ 63; omega, fun x hx => ok.pos x (by rw [eg]; exact List.mem_append_left _ hx)⟩⟩
    · simp only [shr_non, shr_bl, shr_int, shr_str, shr_ty, shr_tup, shr_lst, shr_fz, shr_dct, shr_loc, shr_fr, truth_bl, true_and, add_ii, sub_ii, mul_ii, fdiv_ii, mod_ii, pow_ii, lt_ii, le_ii, gt_ii, ge_ii, len_t, abs_i, int_i, int_b, ix_turns]
      refine put_turns ?_
      simp only [shr_non, shr_bl, shr_int, shr_str, shr_ty, shr_tup, shr_lst, shr_fz, shr_dct, shr_loc, shr_fr, truth_bl, true_and, add_ii, sub_ii, mul_ii, fdiv_ii, mod_ii, pow_ii, lt_ii, le_ii, gt_ii, ge_ii, len_t, abs_i, int_i, int_b, ix_turns, ix_mixed]
      have m1 : ∀ (a b : Int), -(2 ^ 64) < a → a < 2 ^ 64 → mulOk a b := fun a b h1 h2 => .inl ⟨h1, h2⟩
      have b1 := Int.emod_nonneg (s.mx + 2654435761 * (s.t + 1)) (b := 4294967279) (by decide)
      have b2 := Int.emod_lt_of_pos (s.mx + 2654435761 * (s.t + 1)) (b := 4294967279) (by decide)
      refine ⟨m1 _ _ (by decide) (by decide), by decide, ?_⟩
      generalize (s.mx + 2654435761 * (s.t + 1)) % 4294967279 = a at b1 b2 ⊢
      refine ⟨m1 _ _ (by omega) (by omega), m1 _ _ (by decide) (by decide), by decide, ?_⟩
      have b3 := Int.emod_nonneg (a * a + 40503 * (s.t + 1) + 19) (b := 4294967231) (by decide)
      have b4 := Int.emod_lt_of_pos (a * a + 40503 * (s.t + 1) + 19) (b := 4294967231) (by decide)
      generalize (a * a + 40503 * (s.t + 1) + 19) % 4294967231 = b at b3 b4 ⊢
      have o0 := ok.m0
      have o1 := ok.m1
      refine ⟨m1 _ _ (by omega) (by omega), m1 _ _ (by omega) (by omega), by decide, ?_⟩
      refine ⟨by decide, by decide, by omega, ?_⟩
      exact ret_deck rfl (q _ ⟨s.gs, s.mx, s.t + 1⟩ ⟨ok.m0, ok.m1, ok.len, ok.pos⟩ (Int.emod_nonneg _ (by omega)) (.inl (Int.emod_lt_of_pos _ (by omega))))


section
variable {s s' : Dk} {R l : Mem} {i : Nat} {c : Cell}
theorem ml : (s.mem ++ R).length = R.length + 2 := by simp [Dk.mem]
theorem at2 : (s.mem ++ R ++ l)[R.length + 2 + i]? = l[i]? := by
  rw [List.getElem?_append_right (by rw [ml]; omega), ml]
  congr 1; omega
theorem set2 : (s.mem ++ R ++ l).set (R.length + 2 + i) c = s.mem ++ R ++ l.set i c := by
  rw [List.set_append_right _ _ (by rw [ml]; omega), ml]
  congr 2; omega
theorem ret_deckL {Q : Kd} {n : Nat} {ys : List D} {ex : Mem} (hn : ex[n]? = some (.lst ys)) (h : noLocs ys = true) (q : Q (.fr (.lst ys)) (s'.mem ++ R)) : Ret (s.mem ++ R) Q (.loc (R.length + 2 + n)) (s'.mem ++ R ++ ex) := by
  refine ⟨s'.mem ++ R, ex, rfl, ?_, .inr (.inr (.inl ⟨_, ys, ys, rfl, by rw [ml]; omega, by rw [at2]; exact hn, Fzs.self _ h, q⟩))⟩
  have k := kept_deck (s := s) (s' := s') (R := R) (ex := [])
  refine ⟨k.1, fun n c e => ?_⟩
  match n, e with
  | 0, e =>
    cases e
    exact .inr fun p hp => .cons (.loc (by simp [Dk.mem]) (by simp [Dk.mem] at hp; omega)) (.cons (.int _) (.cons (.int _) .nil))
  | 1, e =>
    cases e
    refine .inr fun p hp => Fzs.self _ ?_
    have : ∀ gs : List Int, noLocs (gs.map D.int) = true := by
      intro gs; induction gs with
      | nil => rfl
      | cons g gs ih => simp [noLocs, noLoc, ih]
    exact this _
  | n + 2, e => exact .inl e
theorem ret_deckX {Q : Kd} {d : D} {ex : Mem} (h : noLoc d = true) (q : Q d (s'.mem ++ R)) : Ret (s.mem ++ R) Q d (s'.mem ++ R ++ ex) := by
  refine ⟨s'.mem ++ R, ex, rfl, ?_, .inl ⟨d, Fz.self d h, q⟩⟩
  have k := ret_deckL (s := s) (s' := s') (R := R) (Q := fun _ _ => True) (n := 0) (ys := []) (ex := [.lst []]) rfl rfl trivial
  have k := kept_deck (s := s) (s' := s') (R := R) (ex := [])
  refine ⟨k.1, fun n c e => ?_⟩
  match n, e with
  | 0, e =>
    cases e
    exact .inr fun p hp => .cons (.loc (by simp [Dk.mem]) (by simp [Dk.mem] at hp; omega)) (.cons (.int _) (.cons (.int _) .nil))
  | 1, e =>
    cases e
    refine .inr fun p hp => Fzs.self _ ?_
    have : ∀ gs : List Int, noLocs (gs.map D.int) = true := by
      intro gs; induction gs with
      | nil => rfl
      | cons g gs ih => simp [noLocs, noLoc, ih]
    exact this _
  | n + 2, e => exact .inl e
end
/-- one of these -/
def sp_pick : SD := fun ds M _ Q => ∃ (s : Dk) (x : D) (xs : List D) (R : Mem), ds = [.loc 0, x] ∧ M = s.mem ++ R ∧ s.Ok ∧ shr x = x ∧ (∀ s' : Dk, sqOf (s'.mem ++ R) x = some xs) ∧ xs ≠ [] ∧ xs.length ≤ 1000 ∧ (∀ y ∈ xs, okD y = true) ∧
  ∀ (y : D) (s' : Dk), s'.Ok → y ∈ xs → Q y (s'.mem ++ R)
theorem w_pick (Γ : Gam) (hd : Γ "_law_draw" = sp_draw) (ds : List D) (M : Mem) (X : XP) (Q : Kd) (hl : ds.length = sig_law_pick.ps.length) (h : sp_pick ds M X Q) : wss Γ ir_law_pick (bodyPo M X Q) (startD cc_law_pick.N ds) M := by
  obtain ⟨s, x, xs, R, rfl, rfl, ok, hx, hxs, hne, hln, hno, q⟩ := h
  unfold ir_law_pick cc_law_pick
  simp only [wss, ws, wp, wps, wpO, wpK, wpP, wpC, wpI, wpTg, wpTgs, bodyPo, startD, shr_non, shr_bl, shr_int, shr_str, shr_ty, shr_tup, shr_lst, shr_fz, shr_dct, shr_loc, shr_fr, truth_bl, true_and, add_ii, sub_ii, mul_ii, fdiv_ii, mod_ii, pow_ii, lt_ii, le_ii, gt_ii, ge_ii, len_t, abs_i, int_i, int_b, Es.len, List.map_cons, List.map_nil, List.length_cons, List.length_nil, List.cons_append, List.nil_append, List.replicate_succ, List.replicate_zero, List.getElem?_cons_zero, List.getElem?_cons_succ, List.set_cons_zero, List.set_cons_succ, Option.some.injEq, exists_eq_left', Nat.zero_add, Nat.reduceAdd, Nat.reduceSub]
  rw [hx, hd]
  have hl0 : 0 < xs.length := List.length_pos_iff.mpr hne
  refine len_of (hxs s) ⟨s, _, R, rfl, rfl, ok, by omega, fun v s' ok' h0 h1 => ?_⟩
  simp only [shr_non, shr_bl, shr_int, shr_str, shr_ty, shr_tup, shr_lst, shr_fz, shr_dct, shr_loc, shr_fr, truth_bl, true_and, add_ii, sub_ii, mul_ii, fdiv_ii, mod_ii, pow_ii, lt_ii, le_ii, gt_ii, ge_ii, len_t, abs_i, int_i, int_b]
  have hv : v.toNat < xs.length := by omega
  obtain ⟨y, hy⟩ : ∃ y, xs[v.toNat]? = some y := ⟨_, List.getElem?_eq_getElem hv⟩
  have e : atI xs ((v.toNat : Nat) : Int) = some y := atI_nat hy (by rw [sizeLine_eq]; omega)
  rw [Int.toNat_of_nonneg h0] at e
  have hm := List.mem_of_getElem? hy
  exact ix_sq (hxs s') e (ret_deck (noLoc_of _ (hno _ hm)) (q _ s' ok' hm))
def Shp (x : D) : Prop := okD x = true ∧ (toPy x).canLay0 = true ∧ (toPy x).depth ≤ 60
theorem shps {xs : List D} (h : ∀ x ∈ xs, Shp x) : okDs xs = true ∧ PyData.canLayAll0 (toPys xs) = true ∧ PyData.depthAll (toPys xs) ≤ 60 := by
  induction xs with
  | nil => exact ⟨rfl, rfl, by simp [toPys, PyData.depthAll]⟩
  | cons x xs ih =>
    obtain ⟨h1, h2, h3⟩ := h x List.mem_cons_self
    obtain ⟨i1, i2, i3⟩ := ih fun y hy => h y (List.mem_cons_of_mem _ hy)
    exact ⟨by simp [okDs, h1, i1], by simp [toPys, PyData.canLayAll0, h2, i2], by simp only [toPys, PyData.depthAll]; exact Nat.max_le.mpr ⟨h3, i3⟩⟩
theorem shp_list {xs : List D} (h : ∀ x ∈ xs, Shp x) : SeqAt.shaped (.list (toPys xs)) = true := by
  obtain ⟨_, h2, h3⟩ := shps h
  show (PyData.canLayAll0 (toPys xs) && decide (PyData.depthAll (toPys xs) + 1 ≤ 64)) = true
  rw [h2, Bool.true_and]
  exact decide_eq_true (by omega)
def sp_shuffled : SD := fun ds M _ Q => ∃ (s : Dk) (x : D) (xs : List D) (R : Mem), ds = [.loc 0, x] ∧ M = s.mem ++ R ∧ s.Ok ∧ shr x = x ∧ sqOf M x = some xs ∧ xs.length ≤ 1000000 ∧ (∀ y ∈ xs, okD y = true) ∧
  ∀ (ys : List D) (s' : Dk), s'.Ok → ys.Perm xs → Q (.fr (.lst ys)) (s'.mem ++ R)
theorem erase_perm {α : Type} : ∀ {l : List α} {v : Nat} {y : α}, l[v]? = some y → (y :: l.eraseIdx v).Perm l
  | [], _, _, h => by cases h
  | a :: l, 0, y, h => by cases h; exact .refl _
  | a :: l, v + 1, y, h => (List.Perm.swap ..).trans ((erase_perm (l := l) (v := v) (y := y) (by simpa using h)).cons a)
theorem perm_out {rest left xs : List D} {v : Nat} {y : D} (h : (rest ++ left).Perm xs) (hy : left[v]? = some y) : ((rest ++ [y]) ++ left.eraseIdx v).Perm xs := by
  rw [List.append_assoc]
  exact (List.Perm.append_left rest (erase_perm hy)).trans h
theorem w_shuffled (Γ : Gam) (hd : Γ "_law_draw" = sp_draw) (ds : List D) (M : Mem) (X : XP) (Q : Kd) (hl : ds.length = sig_law_shuffled.ps.length) (h : sp_shuffled ds M X Q) : wss Γ ir_law_shuffled (bodyPo M X Q) (startD cc_law_shuffled.N ds) M := by
  obtain ⟨s, x, xs, R, rfl, rfl, ok, hx, hxs, hln, hsh, q⟩ := h
  unfold ir_law_shuffled cc_law_shuffled
  simp only [wss, ws, wp, wps, wpO, wpK, wpP, wpC, wpI, wpTg, wpTgs, bodyPo, startD, shr_non, shr_bl, shr_int, shr_str, shr_ty, shr_tup, shr_lst, shr_fz, shr_dct, shr_loc, shr_fr, truth_bl, true_and, add_ii, sub_ii, mul_ii, fdiv_ii, mod_ii, pow_ii, lt_ii, le_ii, gt_ii, ge_ii, len_t, abs_i, int_i, int_b, Es.len, List.map_cons, List.map_nil, List.length_cons, List.length_nil, List.cons_append, List.nil_append, List.replicate_succ, List.replicate_zero, List.getElem?_cons_zero, List.getElem?_cons_succ, List.set_cons_zero, List.set_cons_succ, Option.some.injEq, exists_eq_left', Nat.zero_add, Nat.reduceAdd, Nat.reduceSub]
  rw [hx, hd]
  have l2 : (2 : Nat) ≤ sizeLine := by rw [sizeLine_eq]; decide
  refine list_of hxs (.inl ⟨xs, rfl, Nat.zero_le _, .inl ⟨[], rfl, l2, _, rfl, _, _, rfl, _, _, rfl, rfl, ?_⟩⟩)
  have e1 : (s.mem ++ R).length = R.length + 2 + 0 := ml
  have e2 : (s.mem ++ R ++ [Cell.lst xs]).length = R.length + 2 + 1 := by rw [List.length_append, ml]; rfl
  rw [e1, e2]
  simp only [shr_non, shr_bl, shr_int, shr_str, shr_ty, shr_tup, shr_lst, shr_fz, shr_dct, shr_loc, shr_fr, truth_bl, true_and, add_ii, sub_ii, mul_ii, fdiv_ii, mod_ii, pow_ii, lt_ii, le_ii, gt_ii, ge_ii, len_t, abs_i, int_i, int_b]
  refine ⟨fun k σ M' => ∃ (s' : Dk) (left rest : List D), k = left.length ∧ σ = [some (.loc 0), some x, some (.loc (R.length + 2 + 0)), some (.loc (R.length + 2 + 1))] ∧ M' = s'.mem ++ R ++ [.lst left, .lst rest] ∧ s'.Ok ∧
    (rest ++ left).Perm xs, ⟨_, s, xs, [], rfl, rfl, by rw [List.append_assoc]; rfl, ok, .refl _⟩, ?_⟩
  rintro k σ M' ⟨s', left, rest, rfl, rfl, rfl, ok', hperm⟩
  have hlen : left.length + rest.length = xs.length := by rw [← hperm.length_eq, List.length_append]; omega
  have hleft : ∀ y ∈ left, y ∈ xs := fun y hy => hperm.mem_iff.mp (List.mem_append_right _ hy)
  have hrest : ∀ y ∈ rest, y ∈ xs := fun y hy => hperm.mem_iff.mp (List.mem_append_left _ hy)
  simp only [wss, ws, wp, wps, wpO, wpK, wpP, wpC, wpI, wpTg, wpTgs, bodyPo, startD, shr_non, shr_bl, shr_int, shr_str, shr_ty, shr_tup, shr_lst, shr_fz, shr_dct, shr_loc, shr_fr, truth_bl, true_and, add_ii, sub_ii, mul_ii, fdiv_ii, mod_ii, pow_ii, lt_ii, le_ii, gt_ii, ge_ii, len_t, abs_i, int_i, int_b, Es.len, List.map_cons, List.map_nil, List.length_cons, List.length_nil, List.cons_append, List.nil_append, List.replicate_succ, List.replicate_zero, List.getElem?_cons_zero, List.getElem?_cons_succ, List.set_cons_zero, List.set_cons_succ, Option.some.injEq, exists_eq_left', Nat.zero_add, Nat.reduceAdd, Nat.reduceSub]
  refine ⟨Nat.zero_le _, ne_nilE (xs := left) (ls_loc at2) rfl ?_⟩
  split
  · rename_i hne
    have hl0 : 0 < left.length := by cases left <;> simp at hne ⊢
    refine ⟨⟨_, rest, rfl, at2⟩, ⟨_, left, rfl, at2⟩, ?_⟩
    refine len_of (xs := left) (sq_loc at2) ⟨s', _, R ++ [.lst left, .lst rest], rfl, by simp, ok', by omega, fun v s2 ok2 h0 h1 => ?_⟩
    have hv : v.toNat < left.length := by omega
    obtain ⟨y, hy⟩ : ∃ y, left[v.toNat]? = some y := ⟨_, List.getElem?_eq_getElem hv⟩
    have hm := List.mem_of_getElem? hy
    simp only [shr_non, shr_bl, shr_int, shr_str, shr_ty, shr_tup, shr_lst, shr_fz, shr_dct, shr_loc, shr_fr, truth_bl, true_and, add_ii, sub_ii, mul_ii, fdiv_ii, mod_ii, pow_ii, lt_ii, le_ii, gt_ii, ge_ii, len_t, abs_i, int_i, int_b]
    rw [← List.append_assoc]
    refine popAt_of (kk := v.toNat) at2 (by omega) (by omega) ?_ hy ?_
    · rw [← Int.toNat_of_nonneg h0]
      exact seqIndex_of (by omega) (by omega)
    · rw [set2, okD_shr (hsh y (hleft y hm))]
      refine app_of (xs := rest) at2 (by rw [sizeLine_eq]; omega) ?_
      rw [set2]
      refine ⟨_, ?_, s2, left.eraseIdx v.toNat, rest ++ [y], rfl, rfl, ok2, perm_out hperm hy⟩
      rw [List.length_eraseIdx_of_lt hv]; omega
  · rename_i hne
    have hnil : left = [] := by cases left <;> simp at hne ⊢
    subst hnil
    refine ret_deckL (ys := rest) rfl (noLocs_of _ (okDs_iff.mpr fun y hy => hsh y (hrest y hy))) (q rest s' ok' (by simpa using hperm))
end LK

set_option Elab.async false
set_option maxRecDepth 100000
set_option linter.all false
namespace LK
open PySem L2 Lay RZ PyProof.Rows
theorem at0 {a b : D} : atI [a, b] 0 = some a := rfl
theorem at1 {a b : D} : atI [a, b] 1 = some b := rfl
theorem ix_t {M : Mem} {xs : List D} {k : Int} {y : D} {Q : D → Prop} (e : atI xs k = some y) (q : Q y) : opIx (.tup xs) (.int k) M Q := ix_sq rfl e q
theorem cut_mem {xs : List D} {lo hi : Option Int} {x : D} (h : x ∈ Lay.cutD xs lo hi) : x ∈ xs := List.mem_of_mem_drop (List.mem_of_mem_take h)
theorem cut_le {xs : List D} {lo hi : Option Int} : (Lay.cutD xs lo hi).length ≤ xs.length := by
  unfold Lay.cutD
  rw [List.length_take, List.length_drop]; omega
theorem deck_fz {s : Dk} {R : Mem} {n : Nat} {c : Cell} (e : (s.mem ++ R)[n]? = some c) (hn : n < 2) {M' : Mem} {k p : Nat} (hk : 2 ≤ k) (hp : k ≤ p) : FzC M' k p c := by
  match n, e with
  | 0, e =>
    cases e
    exact .cons (.loc (by omega) (by omega)) (.cons (.int _) (.cons (.int _) .nil))
  | 1, e =>
    cases e
    refine Fzs.self _ ?_
    have : ∀ gs : List Int, noLocs (gs.map D.int) = true := by
      intro gs; induction gs with
      | nil => rfl
      | cons g gs ih => simp [noLocs, noLoc, ih]
    exact this _
def sp_deck : SD := fun ds M _ Q => ∃ (ns : List Int), ds = [.fz (ns.map .int)] ∧ M = [] ∧ ns.length ≤ 63 ∧ ∀ s' : Dk, s'.Ok → Q (.loc 0) s'.mem
theorem ret_deck0 {s : Dk} {Q : Kd} (q : Q (.loc 0) s.mem) : Ret [] Q (.loc 0) s.mem := by
  refine ⟨s.mem, [], by simp, ⟨Nat.zero_le _, fun n c e => .inr fun p hp => ?_⟩, .inl ⟨.loc 0, .loc (by simp [Dk.mem]) (by simp [Dk.mem]), q⟩⟩
  refine deck_fz (s := s) (R := []) (n := n) (by simpa using e) ?_ (by simp [Dk.mem]) hp
  have := (List.getElem?_eq_some_iff.mp e).1
  simpa [Dk.mem] using this
theorem dic_new {i j : Int} : putK' (putK' (putK' [] (.inr "great") (.loc 1)) (.inr "mixed") (.int i)) (.inr "turns") (.int j) = ({ gs := [], mx := i, t := j } : Dk).dic := by
  have h1 : ¬ (Sum.inr ("great" : Str) : Key) = Sum.inr ("mixed" : Str) := by decide +kernel
  have h2 : ¬ (Sum.inr ("great" : Str) : Key) = Sum.inr ("turns" : Str) := by decide +kernel
  have h3 : ¬ (Sum.inr ("mixed" : Str) : Key) = Sum.inr ("turns" : Str) := by decide +kernel
  simp [putK', Dk.dic, h1, h2, h3]
theorem w_deck (Γ : Gam) (gm : GMono Γ) (ds : List D) (M : Mem) (X : XP) (Q : Kd) (hl : ds.length = sig_law_deck.ps.length) (h : sp_deck ds M X Q) : wss Γ ir_law_deck (bodyPo M X Q) (startD cc_law_deck.N ds) M := by
  obtain ⟨ns, rfl, rfl, hns, q⟩ := h
  unfold ir_law_deck cc_law_deck
  have hcl : (Lay.cutD (ns.map D.int) none (some 63)).length ≤ 63 := Nat.le_trans cut_le (by simpa using hns)
  have h0 : (0 : Nat) ≤ sizeLine := Nat.zero_le _
  refine asg_cut gm (R := fun d M1 => d = .loc 0 ∧ ∃ s : Dk, M1 = s.mem ∧ s.Ok ∧ s.gs = []) ?_ ?_
  · simp only [wss, ws, wp, wps, wpO, wpK, wpP, wpC, wpI, wpTg, wpTgs, bodyPo, startD, shr_non, shr_bl, shr_int, shr_str, shr_ty, shr_tup, shr_lst, shr_fz, shr_dct, shr_loc, shr_fr, truth_bl, true_and, add_ii, sub_ii, mul_ii, fdiv_ii, mod_ii, pow_ii, lt_ii, le_ii, gt_ii, ge_ii, len_t, abs_i, int_i, int_b, Es.len, List.map_cons, List.map_nil, List.length_cons, List.length_nil, List.cons_append, List.nil_append, List.replicate_succ, List.replicate_zero, List.getElem?_cons_zero, List.getElem?_cons_succ, List.set_cons_zero, List.set_cons_succ, Option.some.injEq, exists_eq_left', Nat.zero_add, Nat.reduceAdd, Nat.reduceSub]
    refine ⟨h0, .inl ⟨[], rfl, 63, rfl, ?_⟩⟩
    refine sl_f ?_
    simp only [shr_non, shr_bl, shr_int, shr_str, shr_ty, shr_tup, shr_lst, shr_fz, shr_dct, shr_loc, shr_fr, truth_bl, true_and, add_ii, sub_ii, mul_ii, fdiv_ii, mod_ii, pow_ii, lt_ii, le_ii, gt_ii, ge_ii, len_t, abs_i, int_i, int_b]
    refine len_of (xs := Lay.cutD (ns.map D.int) none (some 63)) rfl ?_
    simp only [shr_non, shr_bl, shr_int, shr_str, shr_ty, shr_tup, shr_lst, shr_fz, shr_dct, shr_loc, shr_fr, truth_bl, true_and, add_ii, sub_ii, mul_ii, fdiv_ii, mod_ii, pow_ii, lt_ii, le_ii, gt_ii, ge_ii, len_t, abs_i, int_i, int_b]
    refine ⟨_, rfl, _, rfl, _, rfl, by decide, rfl, .inr (.inr ⟨(fun e z => nomatch z), ⟨[], 1283 + ((Lay.cutD (ns.map D.int) none (some 63)).length : Int), 0⟩, ?_, ⟨by show (0 : Int) ≤ 1283 + _; omega, by show 1283 + _ < (4294967291 : Int); omega, Nat.zero_le _, fun g hg => nomatch hg⟩, rfl⟩)⟩
    simp only [List.foldl_cons, List.foldl_nil, List.set_cons_zero]
    rw [dic_new]; rfl
  · rintro d M1 ⟨rfl, s, rfl, ok, hgs⟩
    show wss Γ (.cons _ _) _ [some (.fz (ns.map .int)), some (.loc 0), none, none] s.mem
    refine for_cut gm (M1 := s.mem) (Lay.cutD (ns.map D.int) none (some 63)) [] ?_ (fun i σ M' => ∃ s : Dk, M' = s.mem ∧ 0 ≤ s.mx ∧ s.mx < 4294967291 ∧ s.gs.length ≤ i ∧ (∀ g ∈ s.gs, 0 ≤ g) ∧ ∃ a b, σ = [some (.fz (ns.map .int)), some (.loc 0), a, b])
      ⟨s, rfl, ok.m0, ok.m1, by rw [hgs]; exact Nat.le_refl _, ok.pos, _, _, rfl⟩ (fun _ _ _ _ g hg => nomatch hg) ?_ ?_
    · simp only [wss, ws, wp, wps, wpO, wpK, wpP, wpC, wpI, wpTg, wpTgs, bodyPo, startD, shr_non, shr_bl, shr_int, shr_str, shr_ty, shr_tup, shr_lst, shr_fz, shr_dct, shr_loc, shr_fr, truth_bl, true_and, add_ii, sub_ii, mul_ii, fdiv_ii, mod_ii, pow_ii, lt_ii, le_ii, gt_ii, ge_ii, len_t, abs_i, int_i, int_b, Es.len, List.map_cons, List.map_nil, List.length_cons, List.length_nil, List.cons_append, List.nil_append, List.replicate_succ, List.replicate_zero, List.getElem?_cons_zero, List.getElem?_cons_succ, List.set_cons_zero, List.set_cons_succ, Option.some.injEq, exists_eq_left', Nat.zero_add, Nat.reduceAdd, Nat.reduceSub]
      exact ⟨63, rfl, sl_f (it_l (by simp))⟩
    · rintro σ M' ⟨s', rfl, m0, m1, hl', hp, a, b, rfl⟩
      simp only [wss, ws, wp, wps, wpO, wpK, wpP, wpC, wpI, wpTg, wpTgs, bodyPo, startD, shr_non, shr_bl, shr_int, shr_str, shr_ty, shr_tup, shr_lst, shr_fz, shr_dct, shr_loc, shr_fr, truth_bl, true_and, add_ii, sub_ii, mul_ii, fdiv_ii, mod_ii, pow_ii, lt_ii, le_ii, gt_ii, ge_ii, len_t, abs_i, int_i, int_b, Es.len, List.map_cons, List.map_nil, List.length_cons, List.length_nil, List.cons_append, List.nil_append, List.replicate_succ, List.replicate_zero, List.getElem?_cons_zero, List.getElem?_cons_succ, List.set_cons_zero, List.set_cons_succ, Option.some.injEq, exists_eq_left', Nat.zero_add, Nat.reduceAdd, Nat.reduceSub]
      exact ret_deck0 (q s' ⟨m0, m1, Nat.le_trans hl' hcl, hp⟩)
    · rintro i x σ M' hx ⟨s', rfl, m0, m1, hl', hp, a, b, rfl⟩
      obtain ⟨c, _, rfl⟩ := List.mem_map.mp (cut_mem (List.mem_of_getElem? hx))
      have hil : i < 63 := Nat.lt_of_lt_of_le (List.getElem?_eq_some_iff.mp hx).1 hcl
      have m1' : ∀ (a b : Int), -(2 ^ 64) < a → a < 2 ^ 64 → mulOk a b := fun a b h1 h2 => .inl ⟨h1, h2⟩
      refine asg_cut gm (R := fun d M1 => M1 = s'.mem ∧ ∃ z : Int, 0 ≤ z ∧ d = .int z) ?_ ?_
      · simp only [wss, ws, wp, wps, wpO, wpK, wpP, wpC, wpI, wpTg, wpTgs, bodyPo, startD, shr_non, shr_bl, shr_int, shr_str, shr_ty, shr_tup, shr_lst, shr_fz, shr_dct, shr_loc, shr_fr, truth_bl, true_and, add_ii, sub_ii, mul_ii, fdiv_ii, mod_ii, pow_ii, lt_ii, le_ii, gt_ii, ge_ii, len_t, abs_i, int_i, int_b, Es.len, List.map_cons, List.map_nil, List.length_cons, List.length_nil, List.cons_append, List.nil_append, List.replicate_succ, List.replicate_zero, List.getElem?_cons_zero, List.getElem?_cons_succ, List.set_cons_zero, List.set_cons_succ, Option.some.injEq, exists_eq_left', Nat.zero_add, Nat.reduceAdd, Nat.reduceSub]
        refine ⟨m1' _ _ (by decide) (by decide), _, ?_, rfl⟩
        split <;> split <;> omega
      · rintro d M1 ⟨rfl, z, hz, rfl⟩
        show wss Γ (.cons _ _) _ [some (.fz (ns.map .int)), some (.loc 0), some (.int c), some (.int z)] s'.mem
        -- behind the test
        have fin : ∀ s2 : Dk, 0 ≤ s2.mx → s2.mx < 4294967291 → s2.gs.length ≤ i + 1 → (∀ g ∈ s2.gs, 0 ≤ g) → wss Γ (.cons (.put (.v 1) (.c (.str "mixed")) (.bin .mod (.bf .int (.cons (.bin .add (.bin .add (.bin .mul (.ix (.v 1) (.c (.str "mixed"))) (.c (.int 75161))) (.v 3)) (.c (.int 11))) .nil)) (.c (.int 4294967291)))) .nil)
            { nx := fun σ M' => ∃ s : Dk, M' = s.mem ∧ 0 ≤ s.mx ∧ s.mx < 4294967291 ∧ s.gs.length ≤ i + 1 ∧ (∀ g ∈ s.gs, 0 ≤ g) ∧ ∃ a b, σ = [some (.fz (ns.map .int)), some (.loc 0), a, b],
              ct := fun σ M' => ∃ s : Dk, M' = s.mem ∧ 0 ≤ s.mx ∧ s.mx < 4294967291 ∧ s.gs.length ≤ i + 1 ∧ (∀ g ∈ s.gs, 0 ≤ g) ∧ ∃ a b, σ = [some (.fz (ns.map .int)), some (.loc 0), a, b],
              bk := fun σ M => wss Γ (.cons (.ret (.v 1)) .nil) (bodyPo [] X Q) σ M, rt := (bodyPo [] X Q).rt, xe := (bodyPo [] X Q).xe }
            [some (.fz (ns.map .int)), some (.loc 0), some (.int c), some (.int z)] s2.mem := fun s2 a0 a1 a2 a3 => by
          simp only [wss, ws, wp, wps, wpO, wpK, wpP, wpC, wpI, wpTg, wpTgs, bodyPo, startD, shr_non, shr_bl, shr_int, shr_str, shr_ty, shr_tup, shr_lst, shr_fz, shr_dct, shr_loc, shr_fr, truth_bl, true_and, add_ii, sub_ii, mul_ii, fdiv_ii, mod_ii, pow_ii, lt_ii, le_ii, gt_ii, ge_ii, len_t, abs_i, int_i, int_b, Es.len, List.map_cons, List.map_nil, List.length_cons, List.length_nil, List.cons_append, List.nil_append, List.replicate_succ, List.replicate_zero, List.getElem?_cons_zero, List.getElem?_cons_succ, List.set_cons_zero, List.set_cons_succ, Option.some.injEq, exists_eq_left', Nat.zero_add, Nat.reduceAdd, Nat.reduceSub]
          have e : s2.mem = s2.mem ++ [] := by simp
          rw [e]
          refine ix_mixed.mpr ?_
          simp only [shr_non, shr_bl, shr_int, shr_str, shr_ty, shr_tup, shr_lst, shr_fz, shr_dct, shr_loc, shr_fr, truth_bl, true_and, add_ii, sub_ii, mul_ii, fdiv_ii, mod_ii, pow_ii, lt_ii, le_ii, gt_ii, ge_ii, len_t, abs_i, int_i, int_b]
          refine ⟨m1' _ _ (by omega) (by omega), by decide, put_mixed ?_⟩
          refine ⟨⟨s2.gs, (s2.mx * 75161 + z + 11) % 4294967291, s2.t⟩, by simp, Int.emod_nonneg _ (by decide), Int.emod_lt_of_pos _ (by decide), a2, a3, _, _, rfl⟩
        refine ite_cut gm (b := decide ((10 : Int) ^ 16 ≤ z)) ?_ ?_
        · simp only [wss, ws, wp, wps, wpO, wpK, wpP, wpC, wpI, wpTg, wpTgs, bodyPo, startD, shr_non, shr_bl, shr_int, shr_str, shr_ty, shr_tup, shr_lst, shr_fz, shr_dct, shr_loc, shr_fr, truth_bl, true_and, add_ii, sub_ii, mul_ii, fdiv_ii, mod_ii, pow_ii, lt_ii, le_ii, gt_ii, ge_ii, len_t, abs_i, int_i, int_b, Es.len, List.map_cons, List.map_nil, List.length_cons, List.length_nil, List.cons_append, List.nil_append, List.replicate_succ, List.replicate_zero, List.getElem?_cons_zero, List.getElem?_cons_succ, List.set_cons_zero, List.set_cons_succ, Option.some.injEq, exists_eq_left', Nat.zero_add, Nat.reduceAdd, Nat.reduceSub]
          exact ⟨by decide, by decide, by decide, rfl⟩
        · split
          · refine ex_cut gm (R := fun d M1 => M1 = ({ s' with gs := s'.gs ++ [z] } : Dk).mem) ?_ ?_
            · simp only [wss, ws, wp, wps, wpO, wpK, wpP, wpC, wpI, wpTg, wpTgs, bodyPo, startD, shr_non, shr_bl, shr_int, shr_str, shr_ty, shr_tup, shr_lst, shr_fz, shr_dct, shr_loc, shr_fr, truth_bl, true_and, add_ii, sub_ii, mul_ii, fdiv_ii, mod_ii, pow_ii, lt_ii, le_ii, gt_ii, ge_ii, len_t, abs_i, int_i, int_b, Es.len, List.map_cons, List.map_nil, List.length_cons, List.length_nil, List.cons_append, List.nil_append, List.replicate_succ, List.replicate_zero, List.getElem?_cons_zero, List.getElem?_cons_succ, List.set_cons_zero, List.set_cons_succ, Option.some.injEq, exists_eq_left', Nat.zero_add, Nat.reduceAdd, Nat.reduceSub]
              have e : s'.mem = s'.mem ++ [] := by simp
              rw [e]
              refine ix_great.mpr ⟨great_at, great_app (by have := z63; omega) ?_⟩
              rw [List.append_nil]
            rintro d M1 rfl
            refine fin ⟨s'.gs ++ [z], s'.mx, s'.t⟩ m0 m1 (by rw [List.length_append]; simp; omega) fun g hg => ?_
            rcases List.mem_append.mp hg with h | h
            · exact hp g h
            · rw [List.mem_singleton.mp h]; exact hz
          · exact fin s' m0 m1 (by omega) hp
theorem sm_i {i : Int} (h0 : -1000 ≤ i) (h1 : i ≤ 1000) : Sm 40 0 (.int i) := .int (by omega)
theorem sms_app {w v dp : Nat} {xs ys : List D} (h : Sms w dp xs) (q : Sms v dp ys) : Sms (w + v) dp (xs ++ ys) := by
  refine ⟨?_, ?_, ?_, ?_, ?_⟩
  · exact okDs_iff.mpr fun x hx => (List.mem_append.mp hx).elim (okDs_iff.mp h.ok x) (okDs_iff.mp q.ok x)
  all_goals
    have e : toPys (xs ++ ys) = toPys xs ++ toPys ys := by
      clear h q
      induction xs with
      | nil => rfl
      | cons x xs ih => simp [toPys, ih]
    rw [e]
  · have := h.show_
    have := q.show_
    have g : ∀ as bs : List PyData, PyData.showableAll as = true → PyData.showableAll bs = true → PyData.showableAll (as ++ bs) = true := by
      intro as bs; induction as with
      | nil => exact fun _ z => z
      | cons a as ih => intro h1 h2; simp only [PyData.showableAll, Bool.and_eq_true, List.cons_append] at h1 ⊢; exact ⟨h1.1, ih h1.2 h2⟩
    exact g _ _ h.show_ q.show_
  · have g : ∀ as bs : List PyData, PyData.depthAll as ≤ dp → PyData.depthAll bs ≤ dp → PyData.depthAll (as ++ bs) ≤ dp := by
      intro as bs; induction as with
      | nil => exact fun _ z => z
      | cons a as ih => intro h1 h2; simp only [PyData.depthAll, List.cons_append, Nat.max_le] at h1 ⊢; exact ⟨h1.1, ih h1.2 h2⟩
    exact g _ _ h.deep q.deep
  · have g : ∀ as bs : List PyData, PyData.leavesShortAll 1000 as = true → PyData.leavesShortAll 1000 bs = true → PyData.leavesShortAll 1000 (as ++ bs) = true := by
      intro as bs; induction as with
      | nil => exact fun _ z => z
      | cons a as ih => intro h1 h2; simp only [PyData.leavesShortAll, Bool.and_eq_true, List.cons_append] at h1 ⊢; exact ⟨h1.1, ih h1.2 h2⟩
    exact g _ _ h.leaf q.leaf
  · have g : ∀ as bs : List PyData, PyData.weightAll (as ++ bs) = PyData.weightAll as + PyData.weightAll bs := by
      intro as bs; induction as with
      | nil => simp [PyData.weightAll]
      | cons a as ih => simp only [PyData.weightAll, List.cons_append, ih]; omega
    rw [g]
    exact Nat.add_le_add h.wt q.wt
theorem mul_ti {M : Mem} {xs : List D} {k : Int} {Q : Kd} (h0 : xs ≠ []) (h1 : 2 ≤ k) (h2 : k ≤ 1000) (h3 : xs.length ≤ 1000) (q : Q (.tup (List.replicate k.toNat xs).flatten) M) : op2 .mul (.tup xs) (.int k) M Q :=
  .inr (.inr (.inl ⟨xs, k, rfl, rfl, h0, h1, h2, h3, q⟩))
theorem rep_mem {n : Nat} {xs : List D} {x : D} (h : x ∈ (List.replicate n xs).flatten) : x ∈ xs := by
  obtain ⟨l, h1, h2⟩ := List.mem_flatten.mp h
  rw [List.eq_of_mem_replicate h1] at h2
  exact h2
theorem fc {P : D → Prop} {x : D} {xs : List D} (h : P x) (t : ∀ y ∈ xs, P y) : ∀ y ∈ x :: xs, P y := fun y hy => (List.mem_cons.mp hy).elim (fun e => e ▸ h) (t y)
theorem fn {P : D → Prop} : ∀ y ∈ ([] : List D), P y := fun _ h => nomatch h
theorem str_sm {i : Int} (h0 : 0 ≤ i) (h1 : i ≤ 100) : Sm 10 0 (.str (toString i)) := by
  have g : ∀ n : Fin 101, smB 10 0 (.str (toString ((n.val : Nat) : Int))) = true := by decide +kernel
  have := g ⟨i.toNat, by omega⟩
  rw [show ((i.toNat : Nat) : Int) = i by omega] at this
  exact .by this
theorem cut_hi {xs : List D} {k : Nat} : (Lay.cutD xs none (some (k : Int))).length ≤ k := by
  unfold Lay.cutD
  rw [List.length_take]
  have : HT.sIx xs.length xs.length (some (k : Int)) = min k xs.length := HT.sIx_nat _ _ _
  omega
def isInt : D → Bool
  | .int _ => true
  | _ => false
theorem isInt_A (d : D) : (isA "int" d && !isA "bool" d) = isInt d := by cases d <;> rfl
theorem int_of {d : D} (h : isInt d = true) : ∃ i, d = .int i := by cases d <;> first | exact ⟨_, rfl⟩ | cases h
def sp_is_integer : SD := fun ds M _ Q => ∃ v, ds = [v] ∧ okD v = true ∧ Q (.bl (isInt v)) M
end LK

set_option Elab.async false
set_option maxRecDepth 100000
set_option linter.all false
/-! Lay, part Y: iffs, so that one simp walks. -/
namespace Lay
open PySem L2 RZ PyProof.Rows
section
variable {M : Mem} {Q : Kd} {Qb : Bool → Prop} {Qd : D → Prop} {i j : Int} {xs ys : List D} {x y z w : D} {a b : Str}
theorem py_i {p : PyData} : Py M (.int i) p ↔ p = .int i := by
  constructor
  · intro h; cases h; rfl
  · rintro rfl; exact .int i
theorem py_s {p : PyData} : Py M (.str a) p ↔ p = .str a := by
  constructor
  · intro h; cases h; rfl
  · rintro rfl; exact .str a
theorem eq_iff : opC .eq (.int i) (.int j) M Qb ↔ Qb (decide (i = j)) := by
  constructor
  · rintro (⟨_, _, e, _⟩ | ⟨p, q, h1, h2, _, _, h⟩)
    · cases e
    · rw [py_i.mp h1, py_i.mp h2, eqv_ii] at h; exact h
  · exact eq_ii
theorem ne_iff : opC .ne (.int i) (.int j) M Qb ↔ Qb (!decide (i = j)) := by
  constructor
  · rintro ((⟨_, _, e, _⟩ | ⟨_, e, _⟩) | ⟨p, q, h1, h2, _, _, h⟩)
    · cases e
    · cases e
    · rw [py_i.mp h1, py_i.mp h2, eqv_ii] at h; exact h
  · exact ne_ii
theorem eqv_ss : PyData.eqv (.str a) (.str b) = decide (a = b) := by
  show (a == b) = _
  rw [Bool.eq_iff_iff]; simp
theorem ess_iff : opC .eq (.str a) (.str b) M Qb ↔ Qb (decide (a = b)) := by
  constructor
  · rintro (⟨_, _, e1, e2, q⟩ | ⟨p, q, h1, h2, _, _, h⟩)
    · cases e1; cases e2; exact q
    · rw [py_s.mp h1, py_s.mp h2, eqv_ss] at h; exact h
  · exact eq_ss
theorem nss_iff : opC .ne (.str a) (.str b) M Qb ↔ Qb (!decide (a = b)) := by
  constructor
  · rintro ((⟨_, _, e1, e2, q⟩ | ⟨_, e, _⟩) | ⟨p, q, h1, h2, _, _, h⟩)
    · cases e1; cases e2; exact q
    · cases e
    · rw [py_s.mp h1, py_s.mp h2, eqv_ss] at h; exact h
  · exact ne_ss
theorem max_iff : opB .max [.int i, .int j] M Q ↔ Q (.int (if j > i then j else i)) M := by
  constructor
  · rintro (⟨_, _, e, q⟩ | ⟨_, _, _, e, _⟩)
    · cases e; exact q
    · cases e
  · exact fun q => .inl ⟨i, j, rfl, q⟩
theorem min_iff : opB .min [.int i, .int j] M Q ↔ Q (.int (if j < i then j else i)) M := by
  constructor
  · rintro (⟨_, _, e, q⟩ | ⟨_, _, _, e, _⟩)
    · cases e; exact q
    · cases e
  · exact fun q => .inl ⟨i, j, rfl, q⟩
theorem isA_int (h : okD x = true) : opB .isinst [x, .ty "int"] M Q ↔ Q (.bl (isA "int" x)) M := isA_iff h (by decide)
theorem isA_bool (h : okD x = true) : opB .isinst [x, .ty "bool"] M Q ↔ Q (.bl (isA "bool" x)) M := isA_iff h (by decide)
theorem isA_tuple (h : okD x = true) : opB .isinst [x, .ty "tuple"] M Q ↔ Q (.bl (isA "tuple" x)) M := isA_iff h (by decide)
theorem isA_list (h : okD x = true) : opB .isinst [x, .ty "list"] M Q ↔ Q (.bl (isA "list" x)) M := isA_iff h (by decide)
theorem isA_str (h : okD x = true) : opB .isinst [x, .ty "str"] M Q ↔ Q (.bl (isA "str" x)) M := isA_iff h (by decide)
theorem ix_iff {k : Int} (e : atI xs k = some y) : opIx (.tup xs) (.int k) M Qd ↔ Qd y := by
  constructor
  · rintro (⟨_, _, d, e1, e2, e3, q⟩ | ⟨_, _, _, e1, _⟩ | ⟨_, _, _, e1, _⟩)
    · cases e2
      have e1 : some xs = some _ := e1
      cases e1
      rw [e] at e3; cases e3
      exact q
    · cases e1
    · cases e1
  · exact fun q => ix_sq rfl e q
theorem ix0_1 : opIx (.tup [x]) (.int 0) M Qd ↔ Qd x := ix_iff rfl
theorem ix0_2 : opIx (.tup [x, y]) (.int 0) M Qd ↔ Qd x := ix_iff rfl
theorem ix1_2 : opIx (.tup [x, y]) (.int 1) M Qd ↔ Qd y := ix_iff rfl
theorem ix0_3 : opIx (.tup [x, y, z]) (.int 0) M Qd ↔ Qd x := ix_iff rfl
theorem ix1_3 : opIx (.tup [x, y, z]) (.int 1) M Qd ↔ Qd y := ix_iff rfl
theorem ix2_3 : opIx (.tup [x, y, z]) (.int 2) M Qd ↔ Qd z := ix_iff rfl
theorem tg_tup {ts : Tgs} {σ : Sl} {Qs : Sl → Prop} : wpTg (.tup ts) (.tup xs) σ Qs ↔ wpTgs ts xs σ Qs := by
  rw [wpTg]
  constructor
  · rintro ⟨_, e, h⟩; cases e; exact h
  · exact fun h => ⟨_, rfl, h⟩
theorem tg_fl {ts : Tgs} {σ : Sl} {Qs : Sl → Prop} : wpTg (.tup ts) (.fr (.lst xs)) σ Qs ↔ wpTgs ts xs σ Qs := by
  rw [wpTg]
  constructor
  · rintro ⟨_, e, h⟩; cases e; exact h
  · exact fun h => ⟨_, rfl, h⟩
theorem tg_cons {t : Tg} {ts : Tgs} {σ : Sl} {Qs : Sl → Prop} : wpTgs (.cons t ts) (x :: xs) σ Qs ↔ wpTg t x σ fun σ' => wpTgs ts xs σ' Qs := by
  rw [wpTgs]
  constructor
  · rintro ⟨_, _, e, h⟩; cases e; exact h
  · exact fun h => ⟨_, _, rfl, h⟩
theorem tg_nil {σ : Sl} {Qs : Sl → Prop} : wpTgs .nil [] σ Qs ↔ Qs σ := by
  rw [wpTgs]
  exact ⟨fun h => h.2, fun h => ⟨rfl, h⟩⟩
/-- xs != [], a tree -/
theorem ne_nil_l {ps : List PyData} (hp : Pys M xs ps) (hs : SeqAt.shaped (.list ps) = true) (q : Qb (!xs.isEmpty)) : opC .ne (.lst xs) (.lst []) M Qb :=
  .inr ⟨.list ps, .list [], .lst hp, .lst .nil, hs, by decide, by show Qb (!PyData.eqvAll ps []); rw [hp.empty (n := 0)]; exact q⟩
theorem addll_iff : op2 .add (.lst xs) (.lst ys) M Q ↔ (xs.length + ys.length ≤ sizeLine ∧ Q (.fr (.lst (xs ++ ys))) M) := by
  constructor
  · rintro (⟨_, _, e1, _⟩ | ⟨_, _, e1, _⟩ | ⟨_, _, e1, _⟩ | ⟨_, _, e1, e2, q⟩)
    · cases e1
    · cases e1
    · cases e1
    · cases e1; cases e2; exact q
  · exact fun q => .inr (.inr (.inr ⟨xs, ys, rfl, rfl, q⟩))
theorem slt_iff {lo hi : Option Int} : opSl (.tup xs) lo hi M Qd ↔ Qd (.tup (cutD xs lo hi)) := by
  constructor
  · rintro (⟨_, e1, q⟩ | ⟨_, e1, _⟩ | ⟨_, e1, _⟩)
    · cases e1; exact q
    · cases e1
    · cases e1
  · exact sl_t
theorem sll_iff {lo hi : Option Int} : opSl (.lst xs) lo hi M Qd ↔ Qd (.fr (.lst (cutD xs lo hi))) := by
  constructor
  · rintro (⟨_, e1, _⟩ | ⟨_, e1, q⟩ | ⟨_, e1, _⟩)
    · cases e1
    · cases e1; exact q
    · cases e1
  · exact sl_l rfl
theorem lstt_iff : opB .list [.tup xs] M Q ↔ Q (.fr (.lst xs)) M := by
  constructor
  · rintro ⟨_, _, e, e1, q⟩; cases e; cases e1; exact q
  · exact list_of rfl
theorem lstl_iff : opB .list [.lst xs] M Q ↔ Q (.fr (.lst xs)) M := by
  constructor
  · rintro ⟨_, _, e, e1, q⟩; cases e; cases e1; exact q
  · exact list_of rfl
theorem tupt_iff : opB .tuple [.tup xs] M Q ↔ Q (.tup xs) M := by
  constructor
  · rintro ⟨_, _, e, e1, q⟩; cases e; cases e1; exact q
  · exact tuple_of rfl
theorem tupl_iff : opB .tuple [.lst xs] M Q ↔ Q (.tup xs) M := by
  constructor
  · rintro ⟨_, _, e, e1, q⟩; cases e; cases e1; exact q
  · exact tuple_of rfl
theorem len_l : opB .len [.lst xs] M Q ↔ Q (.int xs.length) M := by
  constructor
  · rintro ⟨d, e, ⟨_, e1, q⟩ | ⟨_, e1, _⟩⟩
    · cases e; cases e1; exact q
    · cases e; cases e1
  · exact fun q => ⟨_, rfl, .inl ⟨xs, rfl, q⟩⟩
theorem ret_bl {a c : Bool} (e : a = c) (q : Q (.bl c) M) : Ret M Q (.bl a) M := by subst e; exact ret_same rfl q
theorem ret_eq {d e : D} (h : d = e) (hn : noLoc e = true) (q : Q e M) : Ret M Q d M := by subst h; exact ret_same hn q
end
/-- a tuple of three -/
def three : D → Bool
  | .tup [_, _, _] => true
  | _ => false
theorem three_of {v : D} (h : three v = true) : ∃ a b c, v = .tup [a, b, c] := by
  unfold three at h
  split at h
  · exact ⟨_, _, _, rfl⟩
  · cases h
/-- the test `not isinstance(v, tuple) or len(v) != 3` -/
theorem three_cut {Γ : Gam} (gm : GMono Γ) {k : Nat} {s1 s2 ss : Ss} {P : Po} {σ : Sl} {M : Mem} {v : D} (hσ : σ[k]? = some (some v)) (ht : okD v = true)
    (q : if (!three v) = true then wss Γ s1 { P with nx := fun σ' M' => wss Γ ss P σ' M' } σ M else wss Γ s2 { P with nx := fun σ' M' => wss Γ ss P σ' M' } σ M) :
    wss Γ (.cons (.ite (.or (.not (.bf .isinst (.cons (.v k) (.cons (.c (.ty "tuple")) .nil)))) (.cmp (.bf .len (.cons (.v k) .nil)) (.one .ne (.c (.int 3))))) s1 s2) ss) P σ M := by
  refine ite_cut gm (b := !three v) ?_ q
  simp only [wp, wps, wpC, hσ, Option.some.injEq, exists_eq_left', okD_shr ht, isA_tuple ht, truth_bl, shr_bl, shr_ty, shr_int]
  by_cases hv : ∃ xs, v = .tup xs
  · obtain ⟨xs, rfl⟩ := hv
    rw [isA_tup, Bool.not_true, if_neg Bool.false_ne_true]
    simp only [shr_non, shr_bl, shr_int, shr_str, shr_ty, shr_tup, shr_lst, shr_fz, shr_dct, shr_loc, shr_fr, truth_bl, true_and, add_ii, sub_ii, mul_ii, fdiv_ii, mod_ii, pow_ii, lt_ii, le_ii, gt_ii, ge_ii, len_t, abs_i, int_i, int_b]
    refine ne_ii ?_
    match xs with
    | [] => rfl
    | [_] => rfl
    | [_, _] => rfl
    | [_, _, _] => rfl
    | _ :: _ :: _ :: _ :: _ => simp [three]; omega
  · have hv' : ∀ xs, v ≠ .tup xs := fun xs e => hv ⟨xs, e⟩
    rw [isA_no hv', Bool.not_false, if_pos rfl]
    have : three v = false := by cases v <;> first | rfl | exact absurd rfl (hv' _)
    rw [this]; exact ⟨trivial, rfl⟩
end Lay

set_option Elab.async false
set_option maxRecDepth 100000
set_option linter.all false
/-! Lay, part Z: whole comprehensions. -/
namespace Lay
open PySem L2 RZ PyProof.Rows
mutual
theorem wpTg_mono : ∀ (t : Tg) (d : D) (σ : Sl) (Q Q' : Sl → Prop), (∀ σ, Q σ → Q' σ) → wpTg t d σ Q → wpTg t d σ Q'
  | .nm i, d, σ, Q, Q', k, h => by rw [wpTg] at h ⊢; exact k _ h
  | .tup ts, d, σ, Q, Q', k, h => by
    rw [wpTg] at h ⊢
    obtain ⟨xs, e, h⟩ := h
    exact ⟨xs, e, wpTgs_mono ts xs σ Q Q' k h⟩
theorem wpTgs_mono : ∀ (t : Tgs) (d : List D) (σ : Sl) (Q Q' : Sl → Prop), (∀ σ, Q σ → Q' σ) → wpTgs t d σ Q → wpTgs t d σ Q'
  | .nil, d, σ, Q, Q', k, h => by rw [wpTgs] at h ⊢; exact ⟨h.1, k _ h.2⟩
  | .cons t ts, d, σ, Q, Q', k, h => by
    rw [wpTgs] at h ⊢
    obtain ⟨y, ys, e, h⟩ := h
    exact ⟨y, ys, e, wpTg_mono t y σ _ _ (fun σ' h => wpTgs_mono ts ys σ' Q Q' k h) h⟩
end
theorem wpK_mono {Γ : Gam} (gm : GMono Γ) (c : Eo) (σ : Sl) (M : Mem) (X : XP) (Q Q' : Bool → Mem → Prop) (k : ∀ b M, Q b M → Q' b M) (h : wpK Γ c σ M X Q) : wpK Γ c σ M X Q' := by
  cases c with
  | none => rw [wpK] at h ⊢; exact k _ _ h
  | some e =>
    rw [wpK] at h ⊢
    exact wp_mono gm e σ M X _ _ (fun d M1 h => truth_mono (fun b h => k _ _ h) h) h
theorem filter_take {α : Type} {xs : List α} {p : α → Bool} {i : Nat} {x : α} (h : xs[i]? = some x) : (xs.take (i + 1)).filter p = (xs.take i).filter p ++ (if p x = true then [x] else []) := by
  have := (List.getElem?_eq_some_iff.mp h)
  obtain ⟨hl, e⟩ := this
  rw [List.take_succ, h, List.filter_append]
  by_cases hp : p x = true <;> simp [hp]
/-- a comprehension that changes nothing, with a test -/
theorem lc_cut {Γ : Gam} (gm : GMono Γ) {t : Tg} {it : IT} {c : Eo} {e : E} {own : List Nat} {σ : Sl} {M : Mem} {X : XP} {Q : Kd} {xs : List D} {gd : Gd} (p : D → Bool) (f : D → D)
    (hit : wpI Γ it σ M X fun xs' gd' M1 => xs' = xs ∧ gd' = gd ∧ M1 = M) (hg : ∀ g ∈ gd, M[g.1]? = some g.2)
    (hs : ∀ (i : Nat) (x : D), xs[i]? = some x → wpTg t x (wipeD σ own) fun σ1 => wpK Γ c σ1 M (fun _ _ => False) fun b M3 => M3 = M ∧ b = p x ∧ (p x = true → wp Γ e σ1 M (fun _ _ => False) fun y M4 => M4 = M ∧ shr y = f x))
    (hl : xs.length ≤ sizeLine) (q : Q (.fr (.lst ((xs.filter p).map f))) M) : wp Γ (.lc t it c e own) σ M X Q := by
  rw [wp]
  refine wpI_mono gm it σ M X _ _ ?_ hit
  rintro xs' gd' M1 ⟨rfl, rfl, rfl⟩
  refine ⟨fun i acc M2 => M2 = M1 ∧ acc = ((xs'.take i).filter p).map f, ⟨rfl, rfl⟩, ?_⟩
  rintro i acc M2 ⟨rfl, rfl⟩
  refine ⟨hg, fun e => ?_, fun x hx => ?_⟩
  · rw [e, List.take_length]; exact q
  refine wpTg_mono t x _ _ _ ?_ (hs i x hx)
  intro σ1 h
  refine wpK_mono gm c σ1 M2 _ _ _ ?_ h
  rintro b M3 ⟨rfl, rfl, h⟩
  have hil := (List.getElem?_eq_some_iff.mp hx).1
  split
  · rename_i hp
    refine wp_mono gm e σ1 M3 _ _ _ ?_ (h hp)
    rintro y M4 ⟨rfl, e⟩
    refine ⟨?_, rfl, ?_⟩
    · rw [List.length_map]
      have := List.length_filter_le p (xs'.take i)
      rw [List.length_take] at this
      omega
    · rw [filter_take hx, if_pos hp, e, List.map_append]; rfl
  · rename_i hp
    refine ⟨rfl, ?_⟩
    rw [filter_take hx, if_neg hp, List.append_nil]
/-- without a test -/
theorem lc_all {Γ : Gam} (gm : GMono Γ) {t : Tg} {it : IT} {e : E} {own : List Nat} {σ : Sl} {M : Mem} {X : XP} {Q : Kd} {xs : List D} {gd : Gd} (f : D → D)
    (hit : wpI Γ it σ M X fun xs' gd' M1 => xs' = xs ∧ gd' = gd ∧ M1 = M) (hg : ∀ g ∈ gd, M[g.1]? = some g.2)
    (hs : ∀ (i : Nat) (x : D), xs[i]? = some x → wpTg t x (wipeD σ own) fun σ1 => wp Γ e σ1 M (fun _ _ => False) fun y M4 => M4 = M ∧ shr y = f x)
    (hl : xs.length ≤ sizeLine) (q : Q (.fr (.lst (xs.map f))) M) : wp Γ (.lc t it .none e own) σ M X Q := by
  refine lc_cut gm (fun _ => true) f hit hg (fun i x hx => ?_) hl (by rw [List.filter_eq_self.mpr (fun _ _ => rfl)]; exact q)
  refine wpTg_mono t x _ _ _ ?_ (hs i x hx)
  intro σ1 h
  rw [wpK]
  exact ⟨rfl, rfl, fun _ => h⟩
/-- a comprehension that may change the store, without a test -/
theorem lc_inv {Γ : Gam} (gm : GMono Γ) {t : Tg} {it : IT} {e : E} {own : List Nat} {σ : Sl} {M : Mem} {X : XP} {Q : Kd} {xs : List D} {gd : Gd} (J : Nat → Mem → Prop) (G : D → Prop)
    (hit : wpI Γ it σ M X fun xs' gd' M1 => xs' = xs ∧ gd' = gd ∧ M1 = M) (h0 : J 0 M) (hg : ∀ i M2, J i M2 → ∀ g ∈ gd, M2[g.1]? = some g.2)
    (hs : ∀ (i : Nat) (x : D) (M2 : Mem), xs[i]? = some x → J i M2 → wpTg t x (wipeD σ own) fun σ1 => wp Γ e σ1 M2 (fun _ _ => False) fun y M4 => J (i + 1) M4 ∧ G (shr y))
    (hl : xs.length ≤ sizeLine) (q : ∀ acc M', J xs.length M' → acc.length = xs.length → (∀ y ∈ acc, G y) → Q (.fr (.lst acc)) M') : wp Γ (.lc t it .none e own) σ M X Q := by
  rw [wp]
  refine wpI_mono gm it σ M X _ _ ?_ hit
  rintro xs' gd' M1 ⟨rfl, rfl, rfl⟩
  refine ⟨fun i acc M2 => J i M2 ∧ acc.length = i ∧ ∀ y ∈ acc, G y, ⟨h0, rfl, fun _ h => nomatch h⟩, ?_⟩
  rintro i acc M2 ⟨hj, ha, hG⟩
  refine ⟨hg i M2 hj, fun e => ?_, fun x hx => ?_⟩
  · subst e; exact q acc M2 hj ha hG
  refine wpTg_mono t x _ _ _ ?_ (hs i x M2 hx hj)
  intro σ1 h
  rw [wpK, if_pos rfl]
  have hil := (List.getElem?_eq_some_iff.mp hx).1
  refine wp_mono gm e σ1 M2 _ _ _ ?_ h
  rintro y M4 ⟨h1, h2⟩
  refine ⟨by omega, h1, by rw [List.length_append, ha]; rfl, fun z hz => ?_⟩
  rcases List.mem_append.mp hz with w | w
  · exact hG z w
  · rw [List.mem_singleton.mp w]; exact h2
theorem allInts_map (is : List Int) : allInts (is.map .int) = some is := by
  induction is with
  | nil => rfl
  | cons i is ih => simp [allInts, ih]
/-! small data by its form: whole numbers may be variables -/
mutual
def inB : D → Prop
  | .int i => -100000000000 < i ∧ i < 100000000000
  | .str s => smB 20 0 (.str s) = true
  | .tup xs => inBs xs
  | .lst xs => inBs xs
  | .non => True
  | .bl _ => True
  | .dct [] => True
  | _ => False
def inBs : List D → Prop
  | [] => True
  | x :: xs => inB x ∧ inBs xs
end
mutual
def wB : D → Nat
  | .int _ => 40
  | .str _ => 20
  | .tup xs => wBs xs
  | .lst xs => wBs xs
  | _ => 0
def wBs : List D → Nat
  | [] => 0
  | x :: xs => wB x + 1 + wBs xs
end
mutual
def dB : D → Nat
  | .tup xs => dBs xs + 1
  | .lst xs => dBs xs + 1
  | .dct _ => 1
  | _ => 0
def dBs : List D → Nat
  | [] => 0
  | x :: xs => max (dB x) (dBs xs)
end
mutual
theorem sm_in : ∀ (d : D), inB d → Sm (wB d) (dB d) d
  | .int i, h => by
    simp only [inB] at h
    exact Sm.int (by omega)
  | .str s, h => by
    simp only [inB] at h
    exact .by h
  | .tup xs, h => by
    simp only [inB] at h
    exact Sm.tup (sms_in xs h)
  | .lst xs, h => by
    simp only [inB] at h
    exact Sm.lst (sms_in xs h)
  | .non, _ => Sm.non
  | .bl _, _ => Sm.bl
  | .dct [], _ => Sm.dct0
  | .dct (_ :: _), h => by simp [inB] at h
  | .fz _, h => by simp [inB] at h
  | .loc _, h => by simp [inB] at h
  | .ty _, h => by simp [inB] at h
  | .fr _, h => by simp [inB] at h
theorem sms_in : ∀ (xs : List D), inBs xs → Sms (wBs xs) (dBs xs) xs
  | [], _ => Sms.nil
  | x :: xs, h => by
    simp only [inBs] at h
    exact Sms.cons ((sm_in x h.1).mono (Nat.le_refl _) (by simp only [dBs]; omega)) ((sms_in xs h.2).mono (Nat.le_refl _) (by simp only [dBs]; omega))
end
theorem sm_by {w dp : Nat} {d : D} (h : inB d) (hw : wB d ≤ w) (hd : dB d ≤ dp) : Sm w dp d := (sm_in d h).mono hw hd
def allSm (w dp : Nat) : List D → Prop
  | [] => True
  | x :: xs => inB x ∧ wB x ≤ w ∧ dB x ≤ dp ∧ allSm w dp xs
theorem all_in {w dp : Nat} : ∀ {xs : List D}, allSm w dp xs → ∀ x ∈ xs, Sm w dp x
  | [], _ => fun _ h => nomatch h
  | x :: xs, ⟨h1, h2, h3, h4⟩ => fun y hy => (List.mem_cons.mp hy).elim (fun e => e ▸ sm_by h1 h2 h3) (all_in h4 y)
end Lay

set_option Elab.async false
set_option maxRecDepth 100000
set_option linter.all false
/-! The deck: draws and picks as steps, cells behind the deck. -/
namespace LK
open PySem L2 Lay RZ PyProof.Rows
section
variable {s s' : Dk} {R ex : Mem} {i : Nat} {c : Cell} {Γ : Gam} {X : XP} {Q : Kd} {n : Int} {xs : List D} {x d : D}
theorem at3 : (s.mem ++ (R ++ ex))[R.length + 2 + i]? = ex[i]? := by rw [← List.append_assoc]; exact at2
theorem set3 : (s.mem ++ (R ++ ex)).set (R.length + 2 + i) c = s.mem ++ (R ++ ex.set i c) := by rw [← List.append_assoc, set2, List.append_assoc]
theorem dr (hd : Γ "_law_draw" = sp_draw) (ok : s.Ok) (hn : n < 2 ^ 63) (q : ∀ (v : Int) (s' : Dk), s'.Ok → 0 ≤ v → (v < n ∨ v = 0) → Q (.int v) (s'.mem ++ R)) : Γ "_law_draw" [.loc 0, .int n] (s.mem ++ R) X Q := by
  rw [hd]; exact ⟨s, n, R, rfl, rfl, ok, hn, q⟩
theorem pk (hp : Γ "_law_pick" = sp_pick) (ok : s.Ok) (h1 : xs ≠ []) (h2 : xs.length ≤ 1000) (h3 : ∀ y ∈ xs, okD y = true) (q : ∀ (y : D) (s' : Dk), s'.Ok → y ∈ xs → Q y (s'.mem ++ R)) : Γ "_law_pick" [.loc 0, .lst xs] (s.mem ++ R) X Q := by
  rw [hp]; exact ⟨s, _, xs, R, rfl, rfl, ok, rfl, fun _ => rfl, h1, h2, h3, q⟩
theorem pkL (hp : Γ "_law_pick" = sp_pick) (ok : s.Ok) (ha : ex[i]? = some (.lst xs)) (h1 : xs ≠ []) (h2 : xs.length ≤ 1000) (h3 : ∀ y ∈ xs, okD y = true) (q : ∀ (y : D) (s' : Dk), s'.Ok → y ∈ xs → Q y (s'.mem ++ (R ++ ex))) : Γ "_law_pick" [.loc 0, .loc (R.length + 2 + i)] (s.mem ++ (R ++ ex)) X Q := by
  rw [hp]; exact ⟨s, _, xs, R ++ ex, rfl, rfl, ok, rfl, fun s' => sq_loc (at3.trans ha), h1, h2, h3, q⟩
theorem shu (hs : Γ "_law_shuffled" = sp_shuffled) (ok : s.Ok) (h2 : xs.length ≤ 1000000) (h3 : ∀ y ∈ xs, Shp y) (q : ∀ (ys : List D) (s' : Dk), s'.Ok → ys.length = xs.length → (∀ y ∈ ys, y ∈ xs) → Q (.fr (.lst ys)) (s'.mem ++ R)) : Γ "_law_shuffled" [.loc 0, .lst xs] (s.mem ++ R) X Q := by
  rw [hs]; exact ⟨s, _, xs, R, rfl, rfl, ok, rfl, rfl, h2, fun y hy => (h3 y hy).1, fun ys s' ok' hp => q ys s' ok' hp.length_eq fun y hy => hp.mem_iff.mp hy⟩
theorem shuP (hs : Γ "_law_shuffled" = sp_shuffled) (ok : s.Ok) (h2 : xs.length ≤ 1000000) (h3 : ∀ y ∈ xs, Shp y) (q : ∀ (ys : List D) (s' : Dk), s'.Ok → ys.Perm xs → Q (.fr (.lst ys)) (s'.mem ++ R)) : Γ "_law_shuffled" [.loc 0, .lst xs] (s.mem ++ R) X Q := by
  rw [hs]; exact ⟨s, _, xs, R, rfl, rfl, ok, rfl, rfl, h2, fun y hy => (h3 y hy).1, q⟩
theorem shuO (hs : Γ "_law_shuffled" = sp_shuffled) (ok : s.Ok) (h2 : xs.length ≤ 1000000) (h3 : ∀ y ∈ xs, okD y = true) (q : ∀ (ys : List D) (s' : Dk), s'.Ok → ys.Perm xs → Q (.fr (.lst ys)) (s'.mem ++ R)) : Γ "_law_shuffled" [.loc 0, .lst xs] (s.mem ++ R) X Q := by
  rw [hs]; exact ⟨s, _, xs, R, rfl, rfl, ok, rfl, rfl, h2, h3, q⟩
theorem shuL (hs : Γ "_law_shuffled" = sp_shuffled) (ok : s.Ok) (ha : ex[i]? = some (.lst xs)) (h2 : xs.length ≤ 1000000) (h3 : ∀ y ∈ xs, Shp y) (q : ∀ (ys : List D) (s' : Dk), s'.Ok → ys.length = xs.length → (∀ y ∈ ys, y ∈ xs) → Q (.fr (.lst ys)) (s'.mem ++ (R ++ ex))) : Γ "_law_shuffled" [.loc 0, .loc (R.length + 2 + i)] (s.mem ++ (R ++ ex)) X Q := by
  rw [hs]; exact ⟨s, _, xs, R ++ ex, rfl, rfl, ok, rfl, sq_loc (at3.trans ha), h2, fun y hy => (h3 y hy).1, fun ys s' ok' hp => q ys s' ok' hp.length_eq fun y hy => hp.mem_iff.mp hy⟩
theorem app3 (h : ex[i]? = some (.lst xs)) (hs : xs.length < sizeLine) (q : Q .non (s.mem ++ (R ++ ex.set i (.lst (xs ++ [x]))))) : opM .append (.loc (R.length + 2 + i)) [x] (s.mem ++ (R ++ ex)) Q :=
  app_of (at3.trans h) hs (by rw [set3]; exact q)
theorem cell3 (h : ex[i]? = some (.lst xs)) : ∃ m, D.loc (R.length + 2 + i) = D.loc m ∧ ∃ x, (s.mem ++ (R ++ ex))[m]? = some (Cell.lst x) := ⟨_, rfl, xs, at3.trans h⟩
theorem ret3 (h : noLoc d = true) (q : Q d (s'.mem ++ R)) : Ret (s.mem ++ R) Q d (s'.mem ++ (R ++ ex)) := by rw [← List.append_assoc]; exact ret_deckX h q
end
theorem rng1 {P : Nat → D → Prop} {lo : Int} {n : Nat} (h : ∀ i, i < n → P i (.int (lo + (i : Int) * 1))) : ∀ i x, (rngD lo n 1)[i]? = some x → i < n ∧ P i x := by
  intro i x hx
  have hil : i < n := by
    have := (List.getElem?_eq_some_iff.mp hx).1
    rwa [rngD_len] at this
  rw [rngD_get hil] at hx
  cases hx
  exact ⟨hil, h i hil⟩
end LK

set_option Elab.async false
set_option maxRecDepth 100000
set_option linter.all false
/-! A drawn net: its roads rise. -/
namespace LK
open PySem L2 Lay RZ PyProof.Rows
def Rd (m : Int) (r : D) : Prop := ∃ a b : Int, r = .tup [.int a, .int b] ∧ 0 ≤ a ∧ a < b ∧ b < m
theorem Rd.shp {m : Int} {r : D} (h : Rd m r) : Shp r := by
  obtain ⟨a, b, rfl, _⟩ := h
  exact ⟨rfl, rfl, by show max 0 (max 0 0) + 1 ≤ 60; decide⟩
theorem Rd.sm {m : Int} {r : D} (h : Rd m r) (hm : m ≤ 1000) : Sm 82 1 r := by
  obtain ⟨a, b, rfl, a0, a1, b1⟩ := h
  exact (Sm.tup (Sms.cons (sm_i (by omega) (by omega)) (Sms.cons (sm_i (by omega) (by omega)) Sms.nil))).mono (by decide) (by decide)
def sp_net : SD := fun ds M _ Q => ∃ (s : Dk) (many more : Int) (R : Mem), ds = [.loc 0, .int many, .int more] ∧ M = s.mem ++ R ∧ s.Ok ∧ 2 ≤ many ∧ many ≤ 24 ∧ 0 ≤ more ∧ more ≤ 60 ∧
  ∀ (rs : List D) (s' : Dk), s'.Ok → rs ≠ [] → (rs.length : Int) ≤ many - 1 + more → (∀ r ∈ rs, Rd many r) → Q (.tup [.int many, .tup rs]) (s'.mem ++ R)
/-- rising whole numbers from lo, below hi -/
def Rise (lo hi : Int) : List Int → Prop
  | [] => True
  | x :: xs => lo ≤ x ∧ x < hi ∧ Rise (x + 1) hi xs
theorem Rise.snoc {hi hi' : Int} {x : Int} : ∀ {xs : List Int} {lo : Int}, Rise lo hi xs → lo ≤ x → hi ≤ x → x < hi' → Rise lo hi' (xs ++ [x])
  | [], _, _, h1, h2, h3 => ⟨h1, h3, trivial⟩
  | y :: ys, _, h, h1, h2, h3 => ⟨h.1, by have := h.2.1; omega, Rise.snoc (xs := ys) (lo := y + 1) h.2.2 (by have := h.2.1; omega) h2 h3⟩
theorem Rise.mono {hi hi' : Int} : ∀ {xs : List Int} {lo lo' : Int}, Rise lo hi xs → lo' ≤ lo → hi ≤ hi' → Rise lo' hi' xs
  | [], _, _, _, _, _ => trivial
  | y :: ys, _, _, h, h1, h2 => ⟨by have := h.1; omega, by have := h.2.1; omega, Rise.mono (lo := y + 1) (lo' := y + 1) h.2.2 (Int.le_refl _) h2⟩
theorem Rise.len {hi : Int} : ∀ {xs : List Int} {lo : Int}, Rise lo hi xs → lo ≤ hi → (xs.length : Int) ≤ hi - lo
  | [], _, _, h => by simp; omega
  | y :: ys, lo, h, h0 => by
    have := Rise.len (xs := ys) (lo := y + 1) h.2.2 (by have := h.2.1; omega)
    have := h.1
    have := h.2.1
    simp; omega
theorem Rise.at {hi : Int} : ∀ {xs : List Int} {lo : Int} {i : Nat} {a b : Int}, Rise lo hi xs → xs[i]? = some a → xs[i + 1]? = some b → lo ≤ a ∧ a < b ∧ b < hi
  | [], _, _, _, _, _, h, _ => by cases h
  | [x], _, 0, _, _, h, e1, e2 => by cases e2
  | x :: y :: ys, _, 0, _, _, h, e1, e2 => by
    cases e1
    cases e2
    exact ⟨h.1, by have := h.2.2.1; omega, h.2.2.2.1⟩
  | x :: ys, _, i + 1, _, _, h, e1, e2 => by
    obtain ⟨h1, h2, h3⟩ := Rise.at (xs := ys) h.2.2 e1 e2
    exact ⟨by have := h.1; omega, h2, h3⟩
theorem sIx1 {n : Nat} : HT.sIx n 0 (some 1) = min 1 n := by
  unfold HT.sIx
  simp
theorem cut1 {xs : List D} : Lay.cutD xs (some 1) none = xs.drop 1 := by
  unfold Lay.cutD
  rw [sIx1]
  have e2 : HT.sIx xs.length xs.length none = xs.length := rfl
  rw [e2]
  cases xs with
  | nil => rfl
  | cons x xs =>
    rw [show min 1 (x :: xs).length = 1 by rw [List.length_cons]; omega]
    simp
theorem zip_len (xs ys : List D) : (zipD xs ys).length = min xs.length ys.length := by unfold zipD; rw [List.length_zipWith]
theorem spine_at {is : List Int} {hi : Int} {i : Nat} {x : D} (h : Rise 0 hi is) (e : (zipD (is.map D.int) (Lay.cutD (is.map D.int) (some 1) none))[i]? = some x) : ∃ a b : Int, x = .tup [.int a, .int b] ∧ 0 ≤ a ∧ a < b ∧ b < hi := by
  rw [cut1] at e
  unfold zipD at e
  rw [List.getElem?_zipWith, List.getElem?_map, List.getElem?_drop, List.getElem?_map, Nat.add_comm 1 i] at e
  cases h1 : is[i]? with
  | none => rw [h1] at e; simp at e
  | some a =>
    cases h2 : is[i + 1]? with
    | none => rw [h1, h2] at e; simp at e
    | some b =>
      rw [h1, h2] at e
      simp at e
      exact ⟨a, b, e.symm, h.at h1 h2⟩
theorem w_net (Γ : Gam) (gm : GMono Γ) (hd : Γ "_law_draw" = sp_draw) (hp : Γ "_law_pick" = sp_pick) (hsf : Γ "_law_shuffled" = sp_shuffled) (ds : List D) (M : Mem) (X : XP) (Q : Kd) (hl : ds.length = sig_law_net.ps.length) (h : sp_net ds M X Q) : wss Γ ir_law_net (bodyPo M X Q) (startD cc_law_net.N ds) M := by
  obtain ⟨s, many, more, R, rfl, rfl, ok, n1, n2, o1, o2, q⟩ := h
  unfold ir_law_net cc_law_net
  have hsz : sizeLine = 16777216 := sizeLine_eq
  -- the inner places
  refine asg_cut gm (R := fun d M1 => ∃ (s' : Dk) (is : List Int), d = .fr (.lst (is.map .int)) ∧ M1 = s'.mem ++ R ∧ s'.Ok ∧ Rise 1 (many - 1) is) ?_ ?_
  · rw [wp, wpI]
    simp only [wss, ws, wp.eq_1, wp.eq_2, wp.eq_3, wp.eq_4, wp.eq_5, wp.eq_6, wp.eq_7, wp.eq_8, wp.eq_9, wp.eq_10, wp.eq_11, wp.eq_12, wp.eq_13, wp.eq_14, wp.eq_15, wp.eq_16, wp.eq_17, wp.eq_18, wp.eq_19, wp.eq_20, wp.eq_22, wp.eq_23, wp.eq_24, wp.eq_25, wps, wpO, wpK, wpP, wpC, wpI, wpTg.eq_1, tg_tup, tg_fl, tg_cons, tg_nil, bodyPo, startD, shr_non, shr_bl, shr_int, shr_str, shr_ty, shr_tup, shr_lst, shr_fz, shr_dct, shr_loc, shr_fr, truth_bl, true_and, add_ii, sub_ii, mul_ii, fdiv_ii, mod_ii, pow_ii, lt_ii, le_ii, gt_ii, ge_ii, len_t, abs_i, int_i, int_b, Es.len, List.map_cons, List.map_nil, List.length_cons, List.length_nil, List.cons_append, List.nil_append, List.replicate_succ, List.replicate_zero, List.getElem?_cons_zero, List.getElem?_cons_succ, List.set_cons_zero, List.set_cons_succ, Option.some.injEq, exists_eq_left', Nat.zero_add, Nat.reduceAdd, Nat.reduceSub, eq_iff, ne_iff, ess_iff, nss_iff, max_iff, min_iff, isA_int, isA_bool, isA_tuple, isA_list, isA_str, okD_shr, ix0_2, ix1_2, ix0_3, ix1_3, ix2_3, ix0_1, decide_eq_true_eq, Bool.not_eq_true', Bool.not_eq_false', Bool.not_not, Bool.not_true, Bool.not_false, decide_eq_false_iff_not, List.cons.injEq, and_true, exists_and_left, exists_eq_left, exists_eq_right, D.int.injEq, if_true, if_false, Bool.false_eq_true, reduceCtorEq, ite_true, ite_false, D.tup.injEq, D.bl.injEq, D.str.injEq, Int.cast_ofNat_Int, Int.reduceEq, not_true_eq_false, not_false_eq_true, wipeD, List.foldr_cons, List.foldr_nil]
    refine ⟨1, many - 1, rfl, by unfold small62; omega, by unfold small62; omega, fun i acc M2 => i ≤ (many - 1 - 1).toNat ∧ ∃ (s' : Dk) (is : List Int), acc = is.map .int ∧ M2 = s'.mem ++ R ∧ s'.Ok ∧ Rise 1 (1 + (i : Int)) is, ⟨Nat.zero_le _, s, [], rfl, rfl, ok, trivial⟩, ?_⟩
    rintro i acc M2 ⟨hi, s', is, rfl, rfl, ok', hr⟩
    refine ⟨(fun g hg => nomatch hg), fun e => ⟨s', is, rfl, rfl, ok', ?_⟩, ?_⟩
    · rw [rngD_len] at e
      exact hr.mono (Int.le_refl _) (by omega)
    intro x hx
    obtain ⟨hil, hx⟩ := rng1 (P := fun i x => x = .int (1 + (i : Int) * 1)) (fun i _ => rfl) i x hx
    subst hx
    have hln := hr.len (by omega)
    simp only [wss, ws, wp.eq_1, wp.eq_2, wp.eq_3, wp.eq_4, wp.eq_5, wp.eq_6, wp.eq_7, wp.eq_8, wp.eq_9, wp.eq_10, wp.eq_11, wp.eq_12, wp.eq_13, wp.eq_14, wp.eq_15, wp.eq_16, wp.eq_17, wp.eq_18, wp.eq_19, wp.eq_20, wp.eq_22, wp.eq_23, wp.eq_24, wp.eq_25, wps, wpO, wpK, wpP, wpC, wpI, wpTg.eq_1, tg_tup, tg_fl, tg_cons, tg_nil, bodyPo, startD, shr_non, shr_bl, shr_int, shr_str, shr_ty, shr_tup, shr_lst, shr_fz, shr_dct, shr_loc, shr_fr, truth_bl, true_and, add_ii, sub_ii, mul_ii, fdiv_ii, mod_ii, pow_ii, lt_ii, le_ii, gt_ii, ge_ii, len_t, abs_i, int_i, int_b, Es.len, List.map_cons, List.map_nil, List.length_cons, List.length_nil, List.cons_append, List.nil_append, List.replicate_succ, List.replicate_zero, List.getElem?_cons_zero, List.getElem?_cons_succ, List.set_cons_zero, List.set_cons_succ, Option.some.injEq, exists_eq_left', Nat.zero_add, Nat.reduceAdd, Nat.reduceSub, eq_iff, ne_iff, ess_iff, nss_iff, max_iff, min_iff, isA_int, isA_bool, isA_tuple, isA_list, isA_str, okD_shr, ix0_2, ix1_2, ix0_3, ix1_3, ix2_3, ix0_1, decide_eq_true_eq, Bool.not_eq_true', Bool.not_eq_false', Bool.not_not, Bool.not_true, Bool.not_false, decide_eq_false_iff_not, List.cons.injEq, and_true, exists_and_left, exists_eq_left, exists_eq_right, D.int.injEq, if_true, if_false, Bool.false_eq_true, reduceCtorEq, ite_true, ite_false, D.tup.injEq, D.bl.injEq, D.str.injEq, Int.cast_ofNat_Int, Int.reduceEq, not_true_eq_false, not_false_eq_true, wipeD, List.foldr_cons, List.foldr_nil]
    refine dr hd ok' (by decide) fun v s2 ok2 v0 v1 => ?_
    simp only [wss, ws, wp.eq_1, wp.eq_2, wp.eq_3, wp.eq_4, wp.eq_5, wp.eq_6, wp.eq_7, wp.eq_8, wp.eq_9, wp.eq_10, wp.eq_11, wp.eq_12, wp.eq_13, wp.eq_14, wp.eq_15, wp.eq_16, wp.eq_17, wp.eq_18, wp.eq_19, wp.eq_20, wp.eq_22, wp.eq_23, wp.eq_24, wp.eq_25, wps, wpO, wpK, wpP, wpC, wpI, wpTg.eq_1, tg_tup, tg_fl, tg_cons, tg_nil, bodyPo, startD, shr_non, shr_bl, shr_int, shr_str, shr_ty, shr_tup, shr_lst, shr_fz, shr_dct, shr_loc, shr_fr, truth_bl, true_and, add_ii, sub_ii, mul_ii, fdiv_ii, mod_ii, pow_ii, lt_ii, le_ii, gt_ii, ge_ii, len_t, abs_i, int_i, int_b, Es.len, List.map_cons, List.map_nil, List.length_cons, List.length_nil, List.cons_append, List.nil_append, List.replicate_succ, List.replicate_zero, List.getElem?_cons_zero, List.getElem?_cons_succ, List.set_cons_zero, List.set_cons_succ, Option.some.injEq, exists_eq_left', Nat.zero_add, Nat.reduceAdd, Nat.reduceSub, eq_iff, ne_iff, ess_iff, nss_iff, max_iff, min_iff, isA_int, isA_bool, isA_tuple, isA_list, isA_str, okD_shr, ix0_2, ix1_2, ix0_3, ix1_3, ix2_3, ix0_1, decide_eq_true_eq, Bool.not_eq_true', Bool.not_eq_false', Bool.not_not, Bool.not_true, Bool.not_false, decide_eq_false_iff_not, List.cons.injEq, and_true, exists_and_left, exists_eq_left, exists_eq_right, D.int.injEq, if_true, if_false, Bool.false_eq_true, reduceCtorEq, ite_true, ite_false, D.tup.injEq, D.bl.injEq, D.str.injEq, Int.cast_ofNat_Int, Int.reduceEq, not_true_eq_false, not_false_eq_true, wipeD, List.foldr_cons, List.foldr_nil]
    split
    · exact ⟨by rw [List.length_map]; omega, by omega, s2, is ++ [1 + (i : Int) * 1], by simp, rfl, ok2, hr.snoc (by omega) (by omega) (by omega)⟩
    · exact ⟨by omega, s2, is, rfl, rfl, ok2, hr.mono (Int.le_refl _) (by omega)⟩
  rintro d M1 ⟨s1, inner, rfl, rfl, ok1, hin⟩
  show wss Γ (.cons _ _) _ [some (.loc 0), some (.int many), some (.int more), some (.lst (inner.map .int)), none, none, none, none, none, none, none, none] _
  have hil := hin.len (by omega)
  -- the spine, the pairs
  refine asg_cut gm (R := fun d M1 => d = .tup [.lst ((0 :: (inner ++ [many - 1])).map D.int), .loc (R.length + 2 + 0)] ∧ M1 = s1.mem ++ (R ++ [.lst []])) ?_ ?_
  · simp only [wss, ws, wp.eq_1, wp.eq_2, wp.eq_3, wp.eq_4, wp.eq_5, wp.eq_6, wp.eq_7, wp.eq_8, wp.eq_9, wp.eq_10, wp.eq_11, wp.eq_12, wp.eq_13, wp.eq_14, wp.eq_15, wp.eq_16, wp.eq_17, wp.eq_18, wp.eq_19, wp.eq_20, wp.eq_22, wp.eq_23, wp.eq_24, wp.eq_25, wps, wpO, wpK, wpP, wpC, wpI, wpTg.eq_1, tg_tup, tg_fl, tg_cons, tg_nil, bodyPo, startD, shr_non, shr_bl, shr_int, shr_str, shr_ty, shr_tup, shr_lst, shr_fz, shr_dct, shr_loc, shr_fr, truth_bl, true_and, add_ii, sub_ii, mul_ii, fdiv_ii, mod_ii, pow_ii, lt_ii, le_ii, gt_ii, ge_ii, len_t, abs_i, int_i, int_b, Es.len, List.map_cons, List.map_nil, List.length_cons, List.length_nil, List.cons_append, List.nil_append, List.replicate_succ, List.replicate_zero, List.getElem?_cons_zero, List.getElem?_cons_succ, List.set_cons_zero, List.set_cons_succ, Option.some.injEq, exists_eq_left', Nat.zero_add, Nat.reduceAdd, Nat.reduceSub, eq_iff, ne_iff, ess_iff, nss_iff, max_iff, min_iff, isA_int, isA_bool, isA_tuple, isA_list, isA_str, okD_shr, ix0_2, ix1_2, ix0_3, ix1_3, ix2_3, ix0_1, decide_eq_true_eq, Bool.not_eq_true', Bool.not_eq_false', Bool.not_not, Bool.not_true, Bool.not_false, decide_eq_false_iff_not, List.cons.injEq, and_true, exists_and_left, exists_eq_left, exists_eq_right, D.int.injEq, if_true, if_false, Bool.false_eq_true, reduceCtorEq, ite_true, ite_false, D.tup.injEq, D.bl.injEq, D.str.injEq, Int.cast_ofNat_Int, Int.reduceEq, not_true_eq_false, not_false_eq_true, wipeD, List.foldr_cons, List.foldr_nil, add_tt, addll_iff, slt_iff, sll_iff, lstt_iff, lstl_iff, tupt_iff, tupl_iff, len_l, sizeLine_eq, Nat.reduceLeDiff]
    refine ⟨by rw [List.length_map]; omega, by simp; omega, .inl ⟨_, rfl, ⟨?_, by rw [ml]⟩, by rw [List.append_assoc]⟩⟩
    simp
  rintro d M1 ⟨rfl, rfl⟩
  have hsp : Rise 0 many (0 :: (inner ++ [many - 1])) := ⟨by omega, by omega, hin.snoc (by omega) (by omega) (by omega)⟩
  have hspl := hsp.len (by omega)
  have hsp2 : 2 ≤ (0 :: (inner ++ [many - 1])).length := by simp
  generalize (0 :: (inner ++ [many - 1])) = sp at hsp hspl hsp2
  refine ⟨_, rfl, _, _, rfl, _, _, rfl, rfl, ?_⟩
  show wss Γ (.cons _ _) _ [some (.loc 0), some (.int many), some (.int more), some (.lst (inner.map .int)), none, some (.loc (R.length + 2 + 0)), some (.lst (sp.map .int)), none, none, none, none, none] _
  -- along the spine
  have hz : (zipD (sp.map D.int) (Lay.cutD (sp.map D.int) (some 1) none)).length = sp.length - 1 := by
    rw [zip_len, cut1, List.length_drop, List.length_map]; omega
  refine for_cut gm (M1 := s1.mem ++ (R ++ [.lst []])) (zipD (sp.map D.int) (Lay.cutD (sp.map D.int) (some 1) none)) [] ?_ (fun i σ M' => ∃ (ps : List D) (c3 c4 c6 c7 c8 c9 c10 c11 : Option D), M' = s1.mem ++ (R ++ [.lst ps]) ∧ ps.length = i ∧ (∀ r ∈ ps, Rd many r) ∧
    σ = [some (.loc 0), some (.int many), some (.int more), c3, c4, some (.loc (R.length + 2 + 0)), c6, c7, c8, c9, c10, c11]) ⟨[], _, _, _, _, _, _, _, _, rfl, rfl, (fun r hr => nomatch hr), rfl⟩ (fun _ _ _ _ g hg => nomatch hg) ?_ ?_
  · simp only [wss, ws, wp.eq_1, wp.eq_2, wp.eq_3, wp.eq_4, wp.eq_5, wp.eq_6, wp.eq_7, wp.eq_8, wp.eq_9, wp.eq_10, wp.eq_11, wp.eq_12, wp.eq_13, wp.eq_14, wp.eq_15, wp.eq_16, wp.eq_17, wp.eq_18, wp.eq_19, wp.eq_20, wp.eq_22, wp.eq_23, wp.eq_24, wp.eq_25, wps, wpO, wpK, wpP, wpC, wpI, wpTg.eq_1, tg_tup, tg_fl, tg_cons, tg_nil, bodyPo, startD, shr_non, shr_bl, shr_int, shr_str, shr_ty, shr_tup, shr_lst, shr_fz, shr_dct, shr_loc, shr_fr, truth_bl, true_and, add_ii, sub_ii, mul_ii, fdiv_ii, mod_ii, pow_ii, lt_ii, le_ii, gt_ii, ge_ii, len_t, abs_i, int_i, int_b, Es.len, List.map_cons, List.map_nil, List.length_cons, List.length_nil, List.cons_append, List.nil_append, List.replicate_succ, List.replicate_zero, List.getElem?_cons_zero, List.getElem?_cons_succ, List.set_cons_zero, List.set_cons_succ, Option.some.injEq, exists_eq_left', Nat.zero_add, Nat.reduceAdd, Nat.reduceSub, eq_iff, ne_iff, ess_iff, nss_iff, max_iff, min_iff, isA_int, isA_bool, isA_tuple, isA_list, isA_str, okD_shr, ix0_2, ix1_2, ix0_3, ix1_3, ix2_3, ix0_1, decide_eq_true_eq, Bool.not_eq_true', Bool.not_eq_false', Bool.not_not, Bool.not_true, Bool.not_false, decide_eq_false_iff_not, List.cons.injEq, and_true, exists_and_left, exists_eq_left, exists_eq_right, D.int.injEq, if_true, if_false, Bool.false_eq_true, reduceCtorEq, ite_true, ite_false, D.tup.injEq, D.bl.injEq, D.str.injEq, Int.cast_ofNat_Int, Int.reduceEq, not_true_eq_false, not_false_eq_true, wipeD, List.foldr_cons, List.foldr_nil, add_tt, addll_iff, slt_iff, sll_iff, lstt_iff, lstl_iff, tupt_iff, tupl_iff, len_l, sizeLine_eq, Nat.reduceLeDiff]
    exact ⟨_, _, ⟨rfl, rfl⟩, it_l (it_l ⟨rfl, by simp⟩)⟩
  · rintro σ M' ⟨ps, c3, c4, c6, c7, c8, c9, c10, c11, rfl, hlen, hps, rfl⟩
    rw [hz] at hlen
    have hne : ps ≠ [] := by
      intro e; rw [e] at hlen; simp at hlen; omega
    -- further roads
    refine for_cut gm (M1 := s1.mem ++ (R ++ [.lst ps])) (rngD 0 more.toNat 1) [] ?_ (fun i σ M' => i ≤ more.toNat ∧ ∃ (s' : Dk) (ps : List D) (c3 c4 c6 c7 c8 c9 c10 c11 : Option D), M' = s'.mem ++ (R ++ [.lst ps]) ∧ s'.Ok ∧ ps ≠ [] ∧ (ps.length : Int) ≤ many - 1 + i ∧ (∀ r ∈ ps, Rd many r) ∧
      σ = [some (.loc 0), some (.int many), some (.int more), c3, c4, some (.loc (R.length + 2 + 0)), c6, c7, c8, c9, c10, c11]) ⟨Nat.zero_le _, s1, ps, _, _, _, _, _, _, _, _, rfl, ok1, hne, by omega, hps, rfl⟩ (fun _ _ _ _ g hg => nomatch hg) ?_ ?_
    · simp only [wss, ws, wp.eq_1, wp.eq_2, wp.eq_3, wp.eq_4, wp.eq_5, wp.eq_6, wp.eq_7, wp.eq_8, wp.eq_9, wp.eq_10, wp.eq_11, wp.eq_12, wp.eq_13, wp.eq_14, wp.eq_15, wp.eq_16, wp.eq_17, wp.eq_18, wp.eq_19, wp.eq_20, wp.eq_22, wp.eq_23, wp.eq_24, wp.eq_25, wps, wpO, wpK, wpP, wpC, wpI, wpTg.eq_1, tg_tup, tg_fl, tg_cons, tg_nil, bodyPo, startD, shr_non, shr_bl, shr_int, shr_str, shr_ty, shr_tup, shr_lst, shr_fz, shr_dct, shr_loc, shr_fr, truth_bl, true_and, add_ii, sub_ii, mul_ii, fdiv_ii, mod_ii, pow_ii, lt_ii, le_ii, gt_ii, ge_ii, len_t, abs_i, int_i, int_b, Es.len, List.map_cons, List.map_nil, List.length_cons, List.length_nil, List.cons_append, List.nil_append, List.replicate_succ, List.replicate_zero, List.getElem?_cons_zero, List.getElem?_cons_succ, List.set_cons_zero, List.set_cons_succ, Option.some.injEq, exists_eq_left', Nat.zero_add, Nat.reduceAdd, Nat.reduceSub, eq_iff, ne_iff, ess_iff, nss_iff, max_iff, min_iff, isA_int, isA_bool, isA_tuple, isA_list, isA_str, okD_shr, ix0_2, ix1_2, ix0_3, ix1_3, ix2_3, ix0_1, decide_eq_true_eq, Bool.not_eq_true', Bool.not_eq_false', Bool.not_not, Bool.not_true, Bool.not_false, decide_eq_false_iff_not, List.cons.injEq, and_true, exists_and_left, exists_eq_left, exists_eq_right, D.int.injEq, if_true, if_false, Bool.false_eq_true, reduceCtorEq, ite_true, ite_false, D.tup.injEq, D.bl.injEq, D.str.injEq, Int.cast_ofNat_Int, Int.reduceEq, not_true_eq_false, not_false_eq_true, wipeD, List.foldr_cons, List.foldr_nil]
      exact ⟨more, rfl, by unfold small62; omega, by simp⟩
    · rintro σ M' ⟨hi, s2, ps, c3, c4, c6, c7, c8, c9, c10, c11, rfl, ok2, hne, hlen, hps, rfl⟩
      rw [rngD_len] at hlen
      have hsh : ∀ r ∈ ps, Shp r := fun r hr => (hps r hr).shp
      -- in another order
      refine asg_cut gm (R := fun d M1 => ∃ (s' : Dk) (ys : List D), d = .loc (R.length + 2 + 1) ∧ M1 = s'.mem ++ (R ++ [.lst ps, .lst ys]) ∧ s'.Ok ∧ ys ≠ [] ∧ (ys.length : Int) ≤ many - 1 + more ∧ ∀ r ∈ ys, Rd many r) ?_ ?_
      · simp only [wss, ws, wp.eq_1, wp.eq_2, wp.eq_3, wp.eq_4, wp.eq_5, wp.eq_6, wp.eq_7, wp.eq_8, wp.eq_9, wp.eq_10, wp.eq_11, wp.eq_12, wp.eq_13, wp.eq_14, wp.eq_15, wp.eq_16, wp.eq_17, wp.eq_18, wp.eq_19, wp.eq_20, wp.eq_22, wp.eq_23, wp.eq_24, wp.eq_25, wps, wpO, wpK, wpP, wpC, wpI, wpTg.eq_1, tg_tup, tg_fl, tg_cons, tg_nil, bodyPo, startD, shr_non, shr_bl, shr_int, shr_str, shr_ty, shr_tup, shr_lst, shr_fz, shr_dct, shr_loc, shr_fr, truth_bl, true_and, add_ii, sub_ii, mul_ii, fdiv_ii, mod_ii, pow_ii, lt_ii, le_ii, gt_ii, ge_ii, len_t, abs_i, int_i, int_b, Es.len, List.map_cons, List.map_nil, List.length_cons, List.length_nil, List.cons_append, List.nil_append, List.replicate_succ, List.replicate_zero, List.getElem?_cons_zero, List.getElem?_cons_succ, List.set_cons_zero, List.set_cons_succ, Option.some.injEq, exists_eq_left', Nat.zero_add, Nat.reduceAdd, Nat.reduceSub, eq_iff, ne_iff, ess_iff, nss_iff, max_iff, min_iff, isA_int, isA_bool, isA_tuple, isA_list, isA_str, okD_shr, ix0_2, ix1_2, ix0_3, ix1_3, ix2_3, ix0_1, decide_eq_true_eq, Bool.not_eq_true', Bool.not_eq_false', Bool.not_not, Bool.not_true, Bool.not_false, decide_eq_false_iff_not, List.cons.injEq, and_true, exists_and_left, exists_eq_left, exists_eq_right, D.int.injEq, if_true, if_false, Bool.false_eq_true, reduceCtorEq, ite_true, ite_false, D.tup.injEq, D.bl.injEq, D.str.injEq, Int.cast_ofNat_Int, Int.reduceEq, not_true_eq_false, not_false_eq_true, wipeD, List.foldr_cons, List.foldr_nil]
        refine shuL hsf ok2 rfl (by omega) hsh fun ys s' ok' hl hy => .inl ⟨ys, rfl, ?_, s', ys, ?_, ok', ?_, by omega, fun r hr => hps r (hy r hr)⟩
        · simp [Dk.mem]
        · simp
        · intro e; rw [e] at hl; exact hne (List.length_eq_zero_iff.mp hl.symm)
      rintro d M1 ⟨s3, ys, rfl, rfl, ok3, hyn, hyl, hys⟩
      show wss Γ (.cons _ _) _ [some (.loc 0), some (.int many), some (.int more), c3, c4, some (.loc (R.length + 2 + 1)), c6, c7, c8, c9, c10, c11] _
      have fin : ∀ (rs : List D) (s' : Dk), s'.Ok → rs ≠ [] → (rs.length : Int) ≤ many - 1 + more → (∀ r ∈ rs, Rd many r) → Ret (s.mem ++ R) Q (.tup [.int many, .tup rs]) (s'.mem ++ (R ++ [.lst ps, .lst ys])) := fun rs s' ok' a b c =>
        ret3 (by simp only [noLoc, noLocs, Bool.true_and, Bool.and_true]; exact noLocs_of _ (shps fun r hr => (c r hr).shp).1) (q rs s' ok' a b c)
      simp only [wss, ws, wp.eq_1, wp.eq_2, wp.eq_3, wp.eq_4, wp.eq_5, wp.eq_6, wp.eq_7, wp.eq_8, wp.eq_9, wp.eq_10, wp.eq_11, wp.eq_12, wp.eq_13, wp.eq_14, wp.eq_15, wp.eq_16, wp.eq_17, wp.eq_18, wp.eq_19, wp.eq_20, wp.eq_22, wp.eq_23, wp.eq_24, wp.eq_25, wps, wpO, wpK, wpP, wpC, wpI, wpTg.eq_1, tg_tup, tg_fl, tg_cons, tg_nil, bodyPo, startD, shr_non, shr_bl, shr_int, shr_str, shr_ty, shr_tup, shr_lst, shr_fz, shr_dct, shr_loc, shr_fr, truth_bl, true_and, add_ii, sub_ii, mul_ii, fdiv_ii, mod_ii, pow_ii, lt_ii, le_ii, gt_ii, ge_ii, len_t, abs_i, int_i, int_b, Es.len, List.map_cons, List.map_nil, List.length_cons, List.length_nil, List.cons_append, List.nil_append, List.replicate_succ, List.replicate_zero, List.getElem?_cons_zero, List.getElem?_cons_succ, List.set_cons_zero, List.set_cons_succ, Option.some.injEq, exists_eq_left', Nat.zero_add, Nat.reduceAdd, Nat.reduceSub, eq_iff, ne_iff, ess_iff, nss_iff, max_iff, min_iff, isA_int, isA_bool, isA_tuple, isA_list, isA_str, okD_shr, ix0_2, ix1_2, ix0_3, ix1_3, ix2_3, ix0_1, decide_eq_true_eq, Bool.not_eq_true', Bool.not_eq_false', Bool.not_not, Bool.not_true, Bool.not_false, decide_eq_false_iff_not, List.cons.injEq, and_true, exists_and_left, exists_eq_left, exists_eq_right, D.int.injEq, if_true, if_false, Bool.false_eq_true, reduceCtorEq, ite_true, ite_false, D.tup.injEq, D.bl.injEq, D.str.injEq, Int.cast_ofNat_Int, Int.reduceEq, not_true_eq_false, not_false_eq_true, wipeD, List.foldr_cons, List.foldr_nil, add_tt, addll_iff, slt_iff, sll_iff, lstt_iff, lstl_iff, tupt_iff, tupl_iff, len_l, sizeLine_eq, Nat.reduceLeDiff]
      refine len_of (xs := ys) (sq_loc at3) ?_
      simp only [wss, ws, wp.eq_1, wp.eq_2, wp.eq_3, wp.eq_4, wp.eq_5, wp.eq_6, wp.eq_7, wp.eq_8, wp.eq_9, wp.eq_10, wp.eq_11, wp.eq_12, wp.eq_13, wp.eq_14, wp.eq_15, wp.eq_16, wp.eq_17, wp.eq_18, wp.eq_19, wp.eq_20, wp.eq_22, wp.eq_23, wp.eq_24, wp.eq_25, wps, wpO, wpK, wpP, wpC, wpI, wpTg.eq_1, tg_tup, tg_fl, tg_cons, tg_nil, bodyPo, startD, shr_non, shr_bl, shr_int, shr_str, shr_ty, shr_tup, shr_lst, shr_fz, shr_dct, shr_loc, shr_fr, truth_bl, true_and, add_ii, sub_ii, mul_ii, fdiv_ii, mod_ii, pow_ii, lt_ii, le_ii, gt_ii, ge_ii, len_t, abs_i, int_i, int_b, Es.len, List.map_cons, List.map_nil, List.length_cons, List.length_nil, List.cons_append, List.nil_append, List.replicate_succ, List.replicate_zero, List.getElem?_cons_zero, List.getElem?_cons_succ, List.set_cons_zero, List.set_cons_succ, Option.some.injEq, exists_eq_left', Nat.zero_add, Nat.reduceAdd, Nat.reduceSub, eq_iff, ne_iff, ess_iff, nss_iff, max_iff, min_iff, isA_int, isA_bool, isA_tuple, isA_list, isA_str, okD_shr, ix0_2, ix1_2, ix0_3, ix1_3, ix2_3, ix0_1, decide_eq_true_eq, Bool.not_eq_true', Bool.not_eq_false', Bool.not_not, Bool.not_true, Bool.not_false, decide_eq_false_iff_not, List.cons.injEq, and_true, exists_and_left, exists_eq_left, exists_eq_right, D.int.injEq, if_true, if_false, Bool.false_eq_true, reduceCtorEq, ite_true, ite_false, D.tup.injEq, D.bl.injEq, D.str.injEq, Int.cast_ofNat_Int, Int.reduceEq, not_true_eq_false, not_false_eq_true, wipeD, List.foldr_cons, List.foldr_nil, add_tt, addll_iff, slt_iff, sll_iff, lstt_iff, lstl_iff, tupt_iff, tupl_iff, len_l, sizeLine_eq, Nat.reduceLeDiff]
      have e7 : cutD ys (some 1) none = ys.drop 1 := cut1
      have fin7 : ∀ s' : Dk, s'.Ok → 1 < ys.length → Ret (s.mem ++ R) Q (.tup [.int many, .tup (cutD ys (some 1) none)]) (s'.mem ++ (R ++ [.lst ps, .lst ys])) := fun s' ok' h1 => by
        refine fin _ s' ok' ?_ (by rw [e7, List.length_drop]; omega) fun r hr => hys r (cut_mem hr)
        intro e
        have := congrArg List.length e
        rw [e7, List.length_drop] at this
        simp at this
        omega
      split
      · refine dr hd ok3 (by decide) fun v s4 ok4 v0 v1 => ?_
        simp only [wss, ws, wp.eq_1, wp.eq_2, wp.eq_3, wp.eq_4, wp.eq_5, wp.eq_6, wp.eq_7, wp.eq_8, wp.eq_9, wp.eq_10, wp.eq_11, wp.eq_12, wp.eq_13, wp.eq_14, wp.eq_15, wp.eq_16, wp.eq_17, wp.eq_18, wp.eq_19, wp.eq_20, wp.eq_22, wp.eq_23, wp.eq_24, wp.eq_25, wps, wpO, wpK, wpP, wpC, wpI, wpTg.eq_1, tg_tup, tg_fl, tg_cons, tg_nil, bodyPo, startD, shr_non, shr_bl, shr_int, shr_str, shr_ty, shr_tup, shr_lst, shr_fz, shr_dct, shr_loc, shr_fr, truth_bl, true_and, add_ii, sub_ii, mul_ii, fdiv_ii, mod_ii, pow_ii, lt_ii, le_ii, gt_ii, ge_ii, len_t, abs_i, int_i, int_b, Es.len, List.map_cons, List.map_nil, List.length_cons, List.length_nil, List.cons_append, List.nil_append, List.replicate_succ, List.replicate_zero, List.getElem?_cons_zero, List.getElem?_cons_succ, List.set_cons_zero, List.set_cons_succ, Option.some.injEq, exists_eq_left', Nat.zero_add, Nat.reduceAdd, Nat.reduceSub, eq_iff, ne_iff, ess_iff, nss_iff, max_iff, min_iff, isA_int, isA_bool, isA_tuple, isA_list, isA_str, okD_shr, ix0_2, ix1_2, ix0_3, ix1_3, ix2_3, ix0_1, decide_eq_true_eq, Bool.not_eq_true', Bool.not_eq_false', Bool.not_not, Bool.not_true, Bool.not_false, decide_eq_false_iff_not, List.cons.injEq, and_true, exists_and_left, exists_eq_left, exists_eq_right, D.int.injEq, if_true, if_false, Bool.false_eq_true, reduceCtorEq, ite_true, ite_false, D.tup.injEq, D.bl.injEq, D.str.injEq, Int.cast_ofNat_Int, Int.reduceEq, not_true_eq_false, not_false_eq_true, wipeD, List.foldr_cons, List.foldr_nil, add_tt, addll_iff, slt_iff, sll_iff, lstt_iff, lstl_iff, tupt_iff, tupl_iff, len_l, sizeLine_eq, Nat.reduceLeDiff]
        split
        · refine sl_l (ls_loc at3) ?_
          simp only [wss, ws, wp.eq_1, wp.eq_2, wp.eq_3, wp.eq_4, wp.eq_5, wp.eq_6, wp.eq_7, wp.eq_8, wp.eq_9, wp.eq_10, wp.eq_11, wp.eq_12, wp.eq_13, wp.eq_14, wp.eq_15, wp.eq_16, wp.eq_17, wp.eq_18, wp.eq_19, wp.eq_20, wp.eq_22, wp.eq_23, wp.eq_24, wp.eq_25, wps, wpO, wpK, wpP, wpC, wpI, wpTg.eq_1, tg_tup, tg_fl, tg_cons, tg_nil, bodyPo, startD, shr_non, shr_bl, shr_int, shr_str, shr_ty, shr_tup, shr_lst, shr_fz, shr_dct, shr_loc, shr_fr, truth_bl, true_and, add_ii, sub_ii, mul_ii, fdiv_ii, mod_ii, pow_ii, lt_ii, le_ii, gt_ii, ge_ii, len_t, abs_i, int_i, int_b, Es.len, List.map_cons, List.map_nil, List.length_cons, List.length_nil, List.cons_append, List.nil_append, List.replicate_succ, List.replicate_zero, List.getElem?_cons_zero, List.getElem?_cons_succ, List.set_cons_zero, List.set_cons_succ, Option.some.injEq, exists_eq_left', Nat.zero_add, Nat.reduceAdd, Nat.reduceSub, eq_iff, ne_iff, ess_iff, nss_iff, max_iff, min_iff, isA_int, isA_bool, isA_tuple, isA_list, isA_str, okD_shr, ix0_2, ix1_2, ix0_3, ix1_3, ix2_3, ix0_1, decide_eq_true_eq, Bool.not_eq_true', Bool.not_eq_false', Bool.not_not, Bool.not_true, Bool.not_false, decide_eq_false_iff_not, List.cons.injEq, and_true, exists_and_left, exists_eq_left, exists_eq_right, D.int.injEq, if_true, if_false, Bool.false_eq_true, reduceCtorEq, ite_true, ite_false, D.tup.injEq, D.bl.injEq, D.str.injEq, Int.cast_ofNat_Int, Int.reduceEq, not_true_eq_false, not_false_eq_true, wipeD, List.foldr_cons, List.foldr_nil, add_tt, addll_iff, slt_iff, sll_iff, lstt_iff, lstl_iff, tupt_iff, tupl_iff, len_l, sizeLine_eq, Nat.reduceLeDiff]
          exact fin7 s4 ok4 (by omega)
        · refine tuple_of (sq_loc at3) ?_
          simp only [wss, ws, wp.eq_1, wp.eq_2, wp.eq_3, wp.eq_4, wp.eq_5, wp.eq_6, wp.eq_7, wp.eq_8, wp.eq_9, wp.eq_10, wp.eq_11, wp.eq_12, wp.eq_13, wp.eq_14, wp.eq_15, wp.eq_16, wp.eq_17, wp.eq_18, wp.eq_19, wp.eq_20, wp.eq_22, wp.eq_23, wp.eq_24, wp.eq_25, wps, wpO, wpK, wpP, wpC, wpI, wpTg.eq_1, tg_tup, tg_fl, tg_cons, tg_nil, bodyPo, startD, shr_non, shr_bl, shr_int, shr_str, shr_ty, shr_tup, shr_lst, shr_fz, shr_dct, shr_loc, shr_fr, truth_bl, true_and, add_ii, sub_ii, mul_ii, fdiv_ii, mod_ii, pow_ii, lt_ii, le_ii, gt_ii, ge_ii, len_t, abs_i, int_i, int_b, Es.len, List.map_cons, List.map_nil, List.length_cons, List.length_nil, List.cons_append, List.nil_append, List.replicate_succ, List.replicate_zero, List.getElem?_cons_zero, List.getElem?_cons_succ, List.set_cons_zero, List.set_cons_succ, Option.some.injEq, exists_eq_left', Nat.zero_add, Nat.reduceAdd, Nat.reduceSub, eq_iff, ne_iff, ess_iff, nss_iff, max_iff, min_iff, isA_int, isA_bool, isA_tuple, isA_list, isA_str, okD_shr, ix0_2, ix1_2, ix0_3, ix1_3, ix2_3, ix0_1, decide_eq_true_eq, Bool.not_eq_true', Bool.not_eq_false', Bool.not_not, Bool.not_true, Bool.not_false, decide_eq_false_iff_not, List.cons.injEq, and_true, exists_and_left, exists_eq_left, exists_eq_right, D.int.injEq, if_true, if_false, Bool.false_eq_true, reduceCtorEq, ite_true, ite_false, D.tup.injEq, D.bl.injEq, D.str.injEq, Int.cast_ofNat_Int, Int.reduceEq, not_true_eq_false, not_false_eq_true, wipeD, List.foldr_cons, List.foldr_nil, add_tt, addll_iff, slt_iff, sll_iff, lstt_iff, lstl_iff, tupt_iff, tupl_iff, len_l, sizeLine_eq, Nat.reduceLeDiff]
          exact fin _ s4 ok4 hyn hyl hys
      · refine tuple_of (sq_loc at3) ?_
        simp only [wss, ws, wp.eq_1, wp.eq_2, wp.eq_3, wp.eq_4, wp.eq_5, wp.eq_6, wp.eq_7, wp.eq_8, wp.eq_9, wp.eq_10, wp.eq_11, wp.eq_12, wp.eq_13, wp.eq_14, wp.eq_15, wp.eq_16, wp.eq_17, wp.eq_18, wp.eq_19, wp.eq_20, wp.eq_22, wp.eq_23, wp.eq_24, wp.eq_25, wps, wpO, wpK, wpP, wpC, wpI, wpTg.eq_1, tg_tup, tg_fl, tg_cons, tg_nil, bodyPo, startD, shr_non, shr_bl, shr_int, shr_str, shr_ty, shr_tup, shr_lst, shr_fz, shr_dct, shr_loc, shr_fr, truth_bl, true_and, add_ii, sub_ii, mul_ii, fdiv_ii, mod_ii, pow_ii, lt_ii, le_ii, gt_ii, ge_ii, len_t, abs_i, int_i, int_b, Es.len, List.map_cons, List.map_nil, List.length_cons, List.length_nil, List.cons_append, List.nil_append, List.replicate_succ, List.replicate_zero, List.getElem?_cons_zero, List.getElem?_cons_succ, List.set_cons_zero, List.set_cons_succ, Option.some.injEq, exists_eq_left', Nat.zero_add, Nat.reduceAdd, Nat.reduceSub, eq_iff, ne_iff, ess_iff, nss_iff, max_iff, min_iff, isA_int, isA_bool, isA_tuple, isA_list, isA_str, okD_shr, ix0_2, ix1_2, ix0_3, ix1_3, ix2_3, ix0_1, decide_eq_true_eq, Bool.not_eq_true', Bool.not_eq_false', Bool.not_not, Bool.not_true, Bool.not_false, decide_eq_false_iff_not, List.cons.injEq, and_true, exists_and_left, exists_eq_left, exists_eq_right, D.int.injEq, if_true, if_false, Bool.false_eq_true, reduceCtorEq, ite_true, ite_false, D.tup.injEq, D.bl.injEq, D.str.injEq, Int.cast_ofNat_Int, Int.reduceEq, not_true_eq_false, not_false_eq_true, wipeD, List.foldr_cons, List.foldr_nil, add_tt, addll_iff, slt_iff, sll_iff, lstt_iff, lstl_iff, tupt_iff, tupl_iff, len_l, sizeLine_eq, Nat.reduceLeDiff]
        exact fin _ s3 ok3 hyn hyl hys
    · rintro i x σ M' hx ⟨hi, s2, ps, c3, c4, c6, c7, c8, c9, c10, c11, rfl, ok2, hne, hlen, hps, rfl⟩
      obtain ⟨hil, hx⟩ := rng1 (P := fun i x => x = .int (0 + (i : Int) * 1)) (fun i _ => rfl) i x hx
      subst hx
      have ap : ∀ (s' : Dk) (r : D) (c : Option D), s'.Ok → Rd many r → opM .append (.loc (R.length + 2 + 0)) [r] (s'.mem ++ (R ++ [.lst ps])) fun x M1 => i + 1 ≤ more.toNat ∧ ∃ (s' : Dk) (ps : List D), M1 = s'.mem ++ (R ++ [.lst ps]) ∧ s'.Ok ∧ ps ≠ [] ∧ (ps.length : Int) ≤ many - 1 + ((i + 1 : Nat) : Int) ∧ (∀ r ∈ ps, Rd many r) ∧ ∃ x, c = x :=
        fun s' r c ok' hr => app3 rfl (by omega) ⟨by omega, s', ps ++ [r], rfl, ok', by simp, by rw [List.length_append]; simp; omega, fun r' hr' => (List.mem_append.mp hr').elim (hps r') (fun z => by rw [List.mem_singleton.mp z]; exact hr), _, rfl⟩
      simp only [wss, ws, wp.eq_1, wp.eq_2, wp.eq_3, wp.eq_4, wp.eq_5, wp.eq_6, wp.eq_7, wp.eq_8, wp.eq_9, wp.eq_10, wp.eq_11, wp.eq_12, wp.eq_13, wp.eq_14, wp.eq_15, wp.eq_16, wp.eq_17, wp.eq_18, wp.eq_19, wp.eq_20, wp.eq_22, wp.eq_23, wp.eq_24, wp.eq_25, wps, wpO, wpK, wpP, wpC, wpI, wpTg.eq_1, tg_tup, tg_fl, tg_cons, tg_nil, bodyPo, startD, shr_non, shr_bl, shr_int, shr_str, shr_ty, shr_tup, shr_lst, shr_fz, shr_dct, shr_loc, shr_fr, truth_bl, true_and, add_ii, sub_ii, mul_ii, fdiv_ii, mod_ii, pow_ii, lt_ii, le_ii, gt_ii, ge_ii, len_t, abs_i, int_i, int_b, Es.len, List.map_cons, List.map_nil, List.length_cons, List.length_nil, List.cons_append, List.nil_append, List.replicate_succ, List.replicate_zero, List.getElem?_cons_zero, List.getElem?_cons_succ, List.set_cons_zero, List.set_cons_succ, Option.some.injEq, exists_eq_left', Nat.zero_add, Nat.reduceAdd, Nat.reduceSub, eq_iff, ne_iff, ess_iff, nss_iff, max_iff, min_iff, isA_int, isA_bool, isA_tuple, isA_list, isA_str, okD_shr, ix0_2, ix1_2, ix0_3, ix1_3, ix2_3, ix0_1, decide_eq_true_eq, Bool.not_eq_true', Bool.not_eq_false', Bool.not_not, Bool.not_true, Bool.not_false, decide_eq_false_iff_not, List.cons.injEq, and_true, exists_and_left, exists_eq_left, exists_eq_right, D.int.injEq, if_true, if_false, Bool.false_eq_true, reduceCtorEq, ite_true, ite_false, D.tup.injEq, D.bl.injEq, D.str.injEq, Int.cast_ofNat_Int, Int.reduceEq, not_true_eq_false, not_false_eq_true, wipeD, List.foldr_cons, List.foldr_nil]
      refine dr hd ok2 (by omega) fun v s3 ok3 v0 v1 => ?_
      simp only [wss, ws, wp.eq_1, wp.eq_2, wp.eq_3, wp.eq_4, wp.eq_5, wp.eq_6, wp.eq_7, wp.eq_8, wp.eq_9, wp.eq_10, wp.eq_11, wp.eq_12, wp.eq_13, wp.eq_14, wp.eq_15, wp.eq_16, wp.eq_17, wp.eq_18, wp.eq_19, wp.eq_20, wp.eq_22, wp.eq_23, wp.eq_24, wp.eq_25, wps, wpO, wpK, wpP, wpC, wpI, wpTg.eq_1, tg_tup, tg_fl, tg_cons, tg_nil, bodyPo, startD, shr_non, shr_bl, shr_int, shr_str, shr_ty, shr_tup, shr_lst, shr_fz, shr_dct, shr_loc, shr_fr, truth_bl, true_and, add_ii, sub_ii, mul_ii, fdiv_ii, mod_ii, pow_ii, lt_ii, le_ii, gt_ii, ge_ii, len_t, abs_i, int_i, int_b, Es.len, List.map_cons, List.map_nil, List.length_cons, List.length_nil, List.cons_append, List.nil_append, List.replicate_succ, List.replicate_zero, List.getElem?_cons_zero, List.getElem?_cons_succ, List.set_cons_zero, List.set_cons_succ, Option.some.injEq, exists_eq_left', Nat.zero_add, Nat.reduceAdd, Nat.reduceSub, eq_iff, ne_iff, ess_iff, nss_iff, max_iff, min_iff, isA_int, isA_bool, isA_tuple, isA_list, isA_str, okD_shr, ix0_2, ix1_2, ix0_3, ix1_3, ix2_3, ix0_1, decide_eq_true_eq, Bool.not_eq_true', Bool.not_eq_false', Bool.not_not, Bool.not_true, Bool.not_false, decide_eq_false_iff_not, List.cons.injEq, and_true, exists_and_left, exists_eq_left, exists_eq_right, D.int.injEq, if_true, if_false, Bool.false_eq_true, reduceCtorEq, ite_true, ite_false, D.tup.injEq, D.bl.injEq, D.str.injEq, Int.cast_ofNat_Int, Int.reduceEq, not_true_eq_false, not_false_eq_true, wipeD, List.foldr_cons, List.foldr_nil]
      refine dr hd ok3 (by omega) fun w s4 ok4 w0 w1 => ?_
      simp only [wss, ws, wp.eq_1, wp.eq_2, wp.eq_3, wp.eq_4, wp.eq_5, wp.eq_6, wp.eq_7, wp.eq_8, wp.eq_9, wp.eq_10, wp.eq_11, wp.eq_12, wp.eq_13, wp.eq_14, wp.eq_15, wp.eq_16, wp.eq_17, wp.eq_18, wp.eq_19, wp.eq_20, wp.eq_22, wp.eq_23, wp.eq_24, wp.eq_25, wps, wpO, wpK, wpP, wpC, wpI, wpTg.eq_1, tg_tup, tg_fl, tg_cons, tg_nil, bodyPo, startD, shr_non, shr_bl, shr_int, shr_str, shr_ty, shr_tup, shr_lst, shr_fz, shr_dct, shr_loc, shr_fr, truth_bl, true_and, add_ii, sub_ii, mul_ii, fdiv_ii, mod_ii, pow_ii, lt_ii, le_ii, gt_ii, ge_ii, len_t, abs_i, int_i, int_b, Es.len, List.map_cons, List.map_nil, List.length_cons, List.length_nil, List.cons_append, List.nil_append, List.replicate_succ, List.replicate_zero, List.getElem?_cons_zero, List.getElem?_cons_succ, List.set_cons_zero, List.set_cons_succ, Option.some.injEq, exists_eq_left', Nat.zero_add, Nat.reduceAdd, Nat.reduceSub, eq_iff, ne_iff, ess_iff, nss_iff, max_iff, min_iff, isA_int, isA_bool, isA_tuple, isA_list, isA_str, okD_shr, ix0_2, ix1_2, ix0_3, ix1_3, ix2_3, ix0_1, decide_eq_true_eq, Bool.not_eq_true', Bool.not_eq_false', Bool.not_not, Bool.not_true, Bool.not_false, decide_eq_false_iff_not, List.cons.injEq, and_true, exists_and_left, exists_eq_left, exists_eq_right, D.int.injEq, if_true, if_false, Bool.false_eq_true, reduceCtorEq, ite_true, ite_false, D.tup.injEq, D.bl.injEq, D.str.injEq, Int.cast_ofNat_Int, Int.reduceEq, not_true_eq_false, not_false_eq_true, wipeD, List.foldr_cons, List.foldr_nil]
      refine ⟨cell3 rfl, ?_⟩
      refine dr hd ok4 (by decide) fun u s5 ok5 u0 u1 => ?_
      simp only [wss, ws, wp.eq_1, wp.eq_2, wp.eq_3, wp.eq_4, wp.eq_5, wp.eq_6, wp.eq_7, wp.eq_8, wp.eq_9, wp.eq_10, wp.eq_11, wp.eq_12, wp.eq_13, wp.eq_14, wp.eq_15, wp.eq_16, wp.eq_17, wp.eq_18, wp.eq_19, wp.eq_20, wp.eq_22, wp.eq_23, wp.eq_24, wp.eq_25, wps, wpO, wpK, wpP, wpC, wpI, wpTg.eq_1, tg_tup, tg_fl, tg_cons, tg_nil, bodyPo, startD, shr_non, shr_bl, shr_int, shr_str, shr_ty, shr_tup, shr_lst, shr_fz, shr_dct, shr_loc, shr_fr, truth_bl, true_and, add_ii, sub_ii, mul_ii, fdiv_ii, mod_ii, pow_ii, lt_ii, le_ii, gt_ii, ge_ii, len_t, abs_i, int_i, int_b, Es.len, List.map_cons, List.map_nil, List.length_cons, List.length_nil, List.cons_append, List.nil_append, List.replicate_succ, List.replicate_zero, List.getElem?_cons_zero, List.getElem?_cons_succ, List.set_cons_zero, List.set_cons_succ, Option.some.injEq, exists_eq_left', Nat.zero_add, Nat.reduceAdd, Nat.reduceSub, eq_iff, ne_iff, ess_iff, nss_iff, max_iff, min_iff, isA_int, isA_bool, isA_tuple, isA_list, isA_str, okD_shr, ix0_2, ix1_2, ix0_3, ix1_3, ix2_3, ix0_1, decide_eq_true_eq, Bool.not_eq_true', Bool.not_eq_false', Bool.not_not, Bool.not_true, Bool.not_false, decide_eq_false_iff_not, List.cons.injEq, and_true, exists_and_left, exists_eq_left, exists_eq_right, D.int.injEq, if_true, if_false, Bool.false_eq_true, reduceCtorEq, ite_true, ite_false, D.tup.injEq, D.bl.injEq, D.str.injEq, Int.cast_ofNat_Int, Int.reduceEq, not_true_eq_false, not_false_eq_true, wipeD, List.foldr_cons, List.foldr_nil]
      split
      · refine pkL hp ok5 rfl hne (by omega) (fun r hr => ((hps r hr).shp).1) fun y s6 ok6 hy => ?_
        rw [okD_shr ((hps y hy).shp).1]
        exact ap s6 y _ ok6 (hps y hy)
      · exact ⟨by omega, ap s5 _ _ ok5 ⟨v, v + 1 + w, rfl, by omega, by omega, by omega⟩⟩
  · rintro i x σ M' hx ⟨ps, c3, c4, c6, c7, c8, c9, c10, c11, rfl, hlen, hps, rfl⟩
    have hil := (List.getElem?_eq_some_iff.mp hx).1
    obtain ⟨a, b, rfl, hab⟩ := spine_at hsp hx
    simp only [wss, ws, wp.eq_1, wp.eq_2, wp.eq_3, wp.eq_4, wp.eq_5, wp.eq_6, wp.eq_7, wp.eq_8, wp.eq_9, wp.eq_10, wp.eq_11, wp.eq_12, wp.eq_13, wp.eq_14, wp.eq_15, wp.eq_16, wp.eq_17, wp.eq_18, wp.eq_19, wp.eq_20, wp.eq_22, wp.eq_23, wp.eq_24, wp.eq_25, wps, wpO, wpK, wpP, wpC, wpI, wpTg.eq_1, tg_tup, tg_fl, tg_cons, tg_nil, bodyPo, startD, shr_non, shr_bl, shr_int, shr_str, shr_ty, shr_tup, shr_lst, shr_fz, shr_dct, shr_loc, shr_fr, truth_bl, true_and, add_ii, sub_ii, mul_ii, fdiv_ii, mod_ii, pow_ii, lt_ii, le_ii, gt_ii, ge_ii, len_t, abs_i, int_i, int_b, Es.len, List.map_cons, List.map_nil, List.length_cons, List.length_nil, List.cons_append, List.nil_append, List.replicate_succ, List.replicate_zero, List.getElem?_cons_zero, List.getElem?_cons_succ, List.set_cons_zero, List.set_cons_succ, Option.some.injEq, exists_eq_left', Nat.zero_add, Nat.reduceAdd, Nat.reduceSub, eq_iff, ne_iff, ess_iff, nss_iff, max_iff, min_iff, isA_int, isA_bool, isA_tuple, isA_list, isA_str, okD_shr, ix0_2, ix1_2, ix0_3, ix1_3, ix2_3, ix0_1, decide_eq_true_eq, Bool.not_eq_true', Bool.not_eq_false', Bool.not_not, Bool.not_true, Bool.not_false, decide_eq_false_iff_not, List.cons.injEq, and_true, exists_and_left, exists_eq_left, exists_eq_right, D.int.injEq, if_true, if_false, Bool.false_eq_true, reduceCtorEq, ite_true, ite_false, D.tup.injEq, D.bl.injEq, D.str.injEq, Int.cast_ofNat_Int, Int.reduceEq, not_true_eq_false, not_false_eq_true, wipeD, List.foldr_cons, List.foldr_nil]
    refine ⟨cell3 rfl, by omega, app3 rfl (by omega) ⟨ps ++ [.tup [.int a, .int b]], rfl, by rw [List.length_append, hlen]; rfl, fun r hr => ?_, _, rfl⟩⟩
    rcases List.mem_append.mp hr with z | z
    · exact hps r z
    · rw [List.mem_singleton.mp z]; exact ⟨a, b, rfl, hab⟩
end LK

set_option Elab.async false
set_option maxRecDepth 100000
set_option linter.all false
/-! Tests of form: a tuple of so many, a whole number within. -/
namespace LK
open PySem L2 Lay RZ PyProof.Rows
def tupN (lo hi : Int) : D → Bool
  | .tup ys => decide (lo ≤ ys.length) && decide ((ys.length : Int) ≤ hi)
  | _ => false
def inR (lo hi : Int) : D → Bool
  | .int i => decide (lo ≤ i) && decide (i ≤ hi)
  | _ => false
theorem tupN_of {lo hi : Int} {v : D} (h : tupN lo hi v = true) : ∃ ys, v = .tup ys ∧ lo ≤ ys.length ∧ (ys.length : Int) ≤ hi := by
  cases v <;> first | (cases h; done) | skip
  rename_i ys
  have h : (decide (lo ≤ ys.length) && decide ((ys.length : Int) ≤ hi)) = true := h
  simp only [Bool.and_eq_true, decide_eq_true_eq] at h
  exact ⟨ys, rfl, h⟩
theorem inR_of {lo hi : Int} {v : D} (h : inR lo hi v = true) : ∃ i, v = .int i ∧ lo ≤ i ∧ i ≤ hi := by
  cases v <;> first | (cases h; done) | skip
  rename_i i
  have h : (decide (lo ≤ i) && decide (i ≤ hi)) = true := h
  simp only [Bool.and_eq_true, decide_eq_true_eq] at h
  exact ⟨i, rfl, h⟩
theorem inR_no {lo hi : Int} {v : D} (h : isInt v = false) : inR lo hi v = false := by cases v <;> first | rfl | cases h
section
variable {Γ : Gam} (gm : GMono Γ) {k : Nat} {s1 s2 ss : Ss} {P : Po} {σ : Sl} {M : Mem} {v : D}
include gm
theorem len_cut {lo hi : Int} (hσ : σ[k]? = some (some v)) (ht : okD v = true)
    (q : if (!tupN lo hi v) = true then wss Γ s1 { P with nx := fun σ' M' => wss Γ ss P σ' M' } σ M else wss Γ s2 { P with nx := fun σ' M' => wss Γ ss P σ' M' } σ M) :
    wss Γ (.cons (.ite (.or (.not (.bf .isinst (.cons (.v k) (.cons (.c (.ty "tuple")) .nil)))) (.not (.cmp (.c (.int lo)) (.cons .le (.bf .len (.cons (.v k) .nil)) (.one .le (.c (.int hi))))))) s1 s2) ss) P σ M := by
  refine ite_cut gm (b := !tupN lo hi v) ?_ q
  simp only [wss, ws, wp.eq_1, wp.eq_2, wp.eq_3, wp.eq_4, wp.eq_5, wp.eq_6, wp.eq_7, wp.eq_8, wp.eq_9, wp.eq_10, wp.eq_11, wp.eq_12, wp.eq_13, wp.eq_14, wp.eq_15, wp.eq_16, wp.eq_17, wp.eq_18, wp.eq_19, wp.eq_20, wp.eq_22, wp.eq_23, wp.eq_24, wp.eq_25, wps, wpO, wpK, wpP, wpC, wpI, wpTg.eq_1, tg_tup, tg_fl, tg_cons, tg_nil, bodyPo, startD, shr_non, shr_bl, shr_int, shr_str, shr_ty, shr_tup, shr_lst, shr_fz, shr_dct, shr_loc, shr_fr, truth_bl, true_and, add_ii, sub_ii, mul_ii, fdiv_ii, mod_ii, pow_ii, lt_ii, le_ii, gt_ii, ge_ii, len_t, abs_i, int_i, int_b, Es.len, List.map_cons, List.map_nil, List.length_cons, List.length_nil, List.cons_append, List.nil_append, List.replicate_succ, List.replicate_zero, List.getElem?_cons_zero, List.getElem?_cons_succ, List.set_cons_zero, List.set_cons_succ, Option.some.injEq, exists_eq_left', Nat.zero_add, Nat.reduceAdd, Nat.reduceSub, eq_iff, ne_iff, ess_iff, nss_iff, max_iff, min_iff, isA_int, isA_bool, isA_tuple, isA_list, isA_str, okD_shr, ix0_2, ix1_2, ix0_3, ix1_3, ix2_3, ix0_1, decide_eq_true_eq, Bool.not_eq_true', Bool.not_eq_false', Bool.not_not, Bool.not_true, Bool.not_false, decide_eq_false_iff_not, List.cons.injEq, and_true, exists_and_left, exists_eq_left, exists_eq_right, D.int.injEq, if_true, if_false, Bool.false_eq_true, reduceCtorEq, ite_true, ite_false, D.tup.injEq, D.bl.injEq, D.str.injEq, Int.cast_ofNat_Int, Int.reduceEq, not_true_eq_false, not_false_eq_true, wipeD, List.foldr_cons, List.foldr_nil, hσ, ht]
  by_cases hv : ∃ xs, v = .tup xs
  · obtain ⟨xs, rfl⟩ := hv
    simp only [wss, ws, wp.eq_1, wp.eq_2, wp.eq_3, wp.eq_4, wp.eq_5, wp.eq_6, wp.eq_7, wp.eq_8, wp.eq_9, wp.eq_10, wp.eq_11, wp.eq_12, wp.eq_13, wp.eq_14, wp.eq_15, wp.eq_16, wp.eq_17, wp.eq_18, wp.eq_19, wp.eq_20, wp.eq_22, wp.eq_23, wp.eq_24, wp.eq_25, wps, wpO, wpK, wpP, wpC, wpI, wpTg.eq_1, tg_tup, tg_fl, tg_cons, tg_nil, bodyPo, startD, shr_non, shr_bl, shr_int, shr_str, shr_ty, shr_tup, shr_lst, shr_fz, shr_dct, shr_loc, shr_fr, truth_bl, true_and, add_ii, sub_ii, mul_ii, fdiv_ii, mod_ii, pow_ii, lt_ii, le_ii, gt_ii, ge_ii, len_t, abs_i, int_i, int_b, Es.len, List.map_cons, List.map_nil, List.length_cons, List.length_nil, List.cons_append, List.nil_append, List.replicate_succ, List.replicate_zero, List.getElem?_cons_zero, List.getElem?_cons_succ, List.set_cons_zero, List.set_cons_succ, Option.some.injEq, exists_eq_left', Nat.zero_add, Nat.reduceAdd, Nat.reduceSub, eq_iff, ne_iff, ess_iff, nss_iff, max_iff, min_iff, isA_int, isA_bool, isA_tuple, isA_list, isA_str, okD_shr, ix0_2, ix1_2, ix0_3, ix1_3, ix2_3, ix0_1, decide_eq_true_eq, Bool.not_eq_true', Bool.not_eq_false', Bool.not_not, Bool.not_true, Bool.not_false, decide_eq_false_iff_not, List.cons.injEq, and_true, exists_and_left, exists_eq_left, exists_eq_right, D.int.injEq, if_true, if_false, Bool.false_eq_true, reduceCtorEq, ite_true, ite_false, D.tup.injEq, D.bl.injEq, D.str.injEq, Int.cast_ofNat_Int, Int.reduceEq, not_true_eq_false, not_false_eq_true, wipeD, List.foldr_cons, List.foldr_nil, isA_tup]
    have e : tupN lo hi (.tup xs) = (decide (lo ≤ xs.length) && decide ((xs.length : Int) ≤ hi)) := rfl
    rw [e]
    repeat' split
    all_goals (refine Bool.eq_iff_iff.mpr ?_; simp only [decide_eq_true_eq, Bool.not_eq_true', decide_eq_false_iff_not, reduceCtorEq, Bool.and_eq_true, Bool.or_eq_true, Bool.and_eq_false_iff, Bool.or_eq_false_iff, Bool.not_eq_false', Bool.false_eq_true, false_iff, true_iff, iff_true, iff_false]; (try simp only []); omega)
  · have hv' : ∀ xs, v ≠ .tup xs := fun xs e => hv ⟨xs, e⟩
    simp only [wss, ws, wp.eq_1, wp.eq_2, wp.eq_3, wp.eq_4, wp.eq_5, wp.eq_6, wp.eq_7, wp.eq_8, wp.eq_9, wp.eq_10, wp.eq_11, wp.eq_12, wp.eq_13, wp.eq_14, wp.eq_15, wp.eq_16, wp.eq_17, wp.eq_18, wp.eq_19, wp.eq_20, wp.eq_22, wp.eq_23, wp.eq_24, wp.eq_25, wps, wpO, wpK, wpP, wpC, wpI, wpTg.eq_1, tg_tup, tg_fl, tg_cons, tg_nil, bodyPo, startD, shr_non, shr_bl, shr_int, shr_str, shr_ty, shr_tup, shr_lst, shr_fz, shr_dct, shr_loc, shr_fr, truth_bl, true_and, add_ii, sub_ii, mul_ii, fdiv_ii, mod_ii, pow_ii, lt_ii, le_ii, gt_ii, ge_ii, len_t, abs_i, int_i, int_b, Es.len, List.map_cons, List.map_nil, List.length_cons, List.length_nil, List.cons_append, List.nil_append, List.replicate_succ, List.replicate_zero, List.getElem?_cons_zero, List.getElem?_cons_succ, List.set_cons_zero, List.set_cons_succ, Option.some.injEq, exists_eq_left', Nat.zero_add, Nat.reduceAdd, Nat.reduceSub, eq_iff, ne_iff, ess_iff, nss_iff, max_iff, min_iff, isA_int, isA_bool, isA_tuple, isA_list, isA_str, okD_shr, ix0_2, ix1_2, ix0_3, ix1_3, ix2_3, ix0_1, decide_eq_true_eq, Bool.not_eq_true', Bool.not_eq_false', Bool.not_not, Bool.not_true, Bool.not_false, decide_eq_false_iff_not, List.cons.injEq, and_true, exists_and_left, exists_eq_left, exists_eq_right, D.int.injEq, if_true, if_false, Bool.false_eq_true, reduceCtorEq, ite_true, ite_false, D.tup.injEq, D.bl.injEq, D.str.injEq, Int.cast_ofNat_Int, Int.reduceEq, not_true_eq_false, not_false_eq_true, wipeD, List.foldr_cons, List.foldr_nil, isA_no hv']
    cases v <;> first | rfl | exact absurd rfl (hv' _)
theorem int_cut (hi0 : Γ "is_integer" = sp_is_integer) {lo hi : Int} (hσ : σ[k]? = some (some v)) (ht : okD v = true)
    (q : if (!inR lo hi v) = true then wss Γ s1 { P with nx := fun σ' M' => wss Γ ss P σ' M' } σ M else wss Γ s2 { P with nx := fun σ' M' => wss Γ ss P σ' M' } σ M) :
    wss Γ (.cons (.ite (.or (.not (.call "is_integer" (.cons (.v k) .nil))) (.not (.cmp (.c (.int lo)) (.cons .le (.v k) (.one .le (.c (.int hi))))))) s1 s2) ss) P σ M := by
  refine ite_cut gm (b := !inR lo hi v) ?_ q
  simp only [wss, ws, wp.eq_1, wp.eq_2, wp.eq_3, wp.eq_4, wp.eq_5, wp.eq_6, wp.eq_7, wp.eq_8, wp.eq_9, wp.eq_10, wp.eq_11, wp.eq_12, wp.eq_13, wp.eq_14, wp.eq_15, wp.eq_16, wp.eq_17, wp.eq_18, wp.eq_19, wp.eq_20, wp.eq_22, wp.eq_23, wp.eq_24, wp.eq_25, wps, wpO, wpK, wpP, wpC, wpI, wpTg.eq_1, tg_tup, tg_fl, tg_cons, tg_nil, bodyPo, startD, shr_non, shr_bl, shr_int, shr_str, shr_ty, shr_tup, shr_lst, shr_fz, shr_dct, shr_loc, shr_fr, truth_bl, true_and, add_ii, sub_ii, mul_ii, fdiv_ii, mod_ii, pow_ii, lt_ii, le_ii, gt_ii, ge_ii, len_t, abs_i, int_i, int_b, Es.len, List.map_cons, List.map_nil, List.length_cons, List.length_nil, List.cons_append, List.nil_append, List.replicate_succ, List.replicate_zero, List.getElem?_cons_zero, List.getElem?_cons_succ, List.set_cons_zero, List.set_cons_succ, Option.some.injEq, exists_eq_left', Nat.zero_add, Nat.reduceAdd, Nat.reduceSub, eq_iff, ne_iff, ess_iff, nss_iff, max_iff, min_iff, isA_int, isA_bool, isA_tuple, isA_list, isA_str, okD_shr, ix0_2, ix1_2, ix0_3, ix1_3, ix2_3, ix0_1, decide_eq_true_eq, Bool.not_eq_true', Bool.not_eq_false', Bool.not_not, Bool.not_true, Bool.not_false, decide_eq_false_iff_not, List.cons.injEq, and_true, exists_and_left, exists_eq_left, exists_eq_right, D.int.injEq, if_true, if_false, Bool.false_eq_true, reduceCtorEq, ite_true, ite_false, D.tup.injEq, D.bl.injEq, D.str.injEq, Int.cast_ofNat_Int, Int.reduceEq, not_true_eq_false, not_false_eq_true, wipeD, List.foldr_cons, List.foldr_nil, hσ, ht, hi0, sp_is_integer]
  cases hv : isInt v with
  | false => simp only [wss, ws, wp.eq_1, wp.eq_2, wp.eq_3, wp.eq_4, wp.eq_5, wp.eq_6, wp.eq_7, wp.eq_8, wp.eq_9, wp.eq_10, wp.eq_11, wp.eq_12, wp.eq_13, wp.eq_14, wp.eq_15, wp.eq_16, wp.eq_17, wp.eq_18, wp.eq_19, wp.eq_20, wp.eq_22, wp.eq_23, wp.eq_24, wp.eq_25, wps, wpO, wpK, wpP, wpC, wpI, wpTg.eq_1, tg_tup, tg_fl, tg_cons, tg_nil, bodyPo, startD, shr_non, shr_bl, shr_int, shr_str, shr_ty, shr_tup, shr_lst, shr_fz, shr_dct, shr_loc, shr_fr, truth_bl, true_and, add_ii, sub_ii, mul_ii, fdiv_ii, mod_ii, pow_ii, lt_ii, le_ii, gt_ii, ge_ii, len_t, abs_i, int_i, int_b, Es.len, List.map_cons, List.map_nil, List.length_cons, List.length_nil, List.cons_append, List.nil_append, List.replicate_succ, List.replicate_zero, List.getElem?_cons_zero, List.getElem?_cons_succ, List.set_cons_zero, List.set_cons_succ, Option.some.injEq, exists_eq_left', Nat.zero_add, Nat.reduceAdd, Nat.reduceSub, eq_iff, ne_iff, ess_iff, nss_iff, max_iff, min_iff, isA_int, isA_bool, isA_tuple, isA_list, isA_str, okD_shr, ix0_2, ix1_2, ix0_3, ix1_3, ix2_3, ix0_1, decide_eq_true_eq, Bool.not_eq_true', Bool.not_eq_false', Bool.not_not, Bool.not_true, Bool.not_false, decide_eq_false_iff_not, List.cons.injEq, and_true, exists_and_left, exists_eq_left, exists_eq_right, D.int.injEq, if_true, if_false, Bool.false_eq_true, reduceCtorEq, ite_true, ite_false, D.tup.injEq, D.bl.injEq, D.str.injEq, Int.cast_ofNat_Int, Int.reduceEq, not_true_eq_false, not_false_eq_true, wipeD, List.foldr_cons, List.foldr_nil, inR_no hv]
  | true =>
    obtain ⟨i, rfl⟩ := int_of hv
    simp only [wss, ws, wp.eq_1, wp.eq_2, wp.eq_3, wp.eq_4, wp.eq_5, wp.eq_6, wp.eq_7, wp.eq_8, wp.eq_9, wp.eq_10, wp.eq_11, wp.eq_12, wp.eq_13, wp.eq_14, wp.eq_15, wp.eq_16, wp.eq_17, wp.eq_18, wp.eq_19, wp.eq_20, wp.eq_22, wp.eq_23, wp.eq_24, wp.eq_25, wps, wpO, wpK, wpP, wpC, wpI, wpTg.eq_1, tg_tup, tg_fl, tg_cons, tg_nil, bodyPo, startD, shr_non, shr_bl, shr_int, shr_str, shr_ty, shr_tup, shr_lst, shr_fz, shr_dct, shr_loc, shr_fr, truth_bl, true_and, add_ii, sub_ii, mul_ii, fdiv_ii, mod_ii, pow_ii, lt_ii, le_ii, gt_ii, ge_ii, len_t, abs_i, int_i, int_b, Es.len, List.map_cons, List.map_nil, List.length_cons, List.length_nil, List.cons_append, List.nil_append, List.replicate_succ, List.replicate_zero, List.getElem?_cons_zero, List.getElem?_cons_succ, List.set_cons_zero, List.set_cons_succ, Option.some.injEq, exists_eq_left', Nat.zero_add, Nat.reduceAdd, Nat.reduceSub, eq_iff, ne_iff, ess_iff, nss_iff, max_iff, min_iff, isA_int, isA_bool, isA_tuple, isA_list, isA_str, okD_shr, ix0_2, ix1_2, ix0_3, ix1_3, ix2_3, ix0_1, decide_eq_true_eq, Bool.not_eq_true', Bool.not_eq_false', Bool.not_not, Bool.not_true, Bool.not_false, decide_eq_false_iff_not, List.cons.injEq, and_true, exists_and_left, exists_eq_left, exists_eq_right, D.int.injEq, if_true, if_false, Bool.false_eq_true, reduceCtorEq, ite_true, ite_false, D.tup.injEq, D.bl.injEq, D.str.injEq, Int.cast_ofNat_Int, Int.reduceEq, not_true_eq_false, not_false_eq_true, wipeD, List.foldr_cons, List.foldr_nil]
    have e : inR lo hi (.int i) = (decide (lo ≤ i) && decide (i ≤ hi)) := rfl
    rw [e]
    repeat' split
    all_goals (refine Bool.eq_iff_iff.mpr ?_; simp only [decide_eq_true_eq, Bool.not_eq_true', decide_eq_false_iff_not, reduceCtorEq, Bool.and_eq_true, Bool.or_eq_true, Bool.and_eq_false_iff, Bool.or_eq_false_iff, Bool.not_eq_false', Bool.false_eq_true, false_iff, true_iff, iff_true, iff_false]; (try simp only []); omega)
end
theorem isInt_yes {v : D} (h : isInt v = true) : isA "int" v = true ∧ isA "bool" v = false := by
  obtain ⟨i, rfl⟩ := int_of h
  exact ⟨rfl, rfl⟩
theorem inR_int {lo hi i : Int} : inR lo hi (.int i) = (decide (lo ≤ i) && decide (i ≤ hi)) := rfl
end LK

set_option Elab.async false
set_option maxRecDepth 100000
set_option linter.all false
/-! Nets as pairs of whole numbers, walks, loops. -/
namespace LK
open PySem L2 Lay RZ PyProof.Rows
/-- a road's pair -/
def pr (p : Int × Int) : D := .tup [.int p.1, .int p.2]
def netD (m : Int) (ps : List (Int × Int)) : D := .tup [.int m, .tup (ps.map pr)]
def Up (m : Int) (ps : List (Int × Int)) : Prop := ∀ p ∈ ps, 0 ≤ p.1 ∧ p.1 < p.2 ∧ p.2 < m
theorem rds_pairs {m : Int} : ∀ {rs : List D}, (∀ r ∈ rs, Rd m r) → ∃ ps, rs = ps.map pr ∧ Up m ps
  | [], _ => ⟨[], rfl, fun _ h => nomatch h⟩
  | r :: rs, h => by
    obtain ⟨ps, rfl, u⟩ := rds_pairs fun x hx => h x (List.mem_cons_of_mem _ hx)
    obtain ⟨a, b, rfl, hab⟩ := h r List.mem_cons_self
    refine ⟨(a, b) :: ps, rfl, fun p hp => ?_⟩
    rcases List.mem_cons.mp hp with rfl | hp
    · exact hab
    · exact u p hp
theorem pr_ok {ps : List (Int × Int)} : okDs (ps.map pr) = true := okDs_iff.mpr fun x hx => by
  obtain ⟨p, _, rfl⟩ := List.mem_map.mp hx
  rfl
theorem net_ok {m : Int} {ps : List (Int × Int)} : okD (netD m ps) = true := by
  show (true && (okDs (ps.map pr) && true)) = true
  rw [pr_ok]; rfl
theorem at_ps {ps : List (Int × Int)} {j : Int} {p : Int × Int} (h0 : 0 ≤ j) (h : ps[j.toNat]? = some p) (hz : ps.length ≤ 1000) : atI (ps.map pr) j = some (pr p) := by
  have := atI_nat (xs := ps.map pr) (k := j.toNat) (x := pr p) (by rw [List.getElem?_map, h]; rfl) (by rw [List.length_map, sizeLine_eq]; omega)
  rwa [Int.toNat_of_nonneg h0] at this
theorem ix_ps {ps : List (Int × Int)} {j : Int} {p : Int × Int} {M : Mem} {Q : D → Prop} (h0 : 0 ≤ j) (h : ps[j.toNat]? = some p) (hz : ps.length ≤ 1000) : opIx (.tup (ps.map pr)) (.int j) M Q ↔ Q (.tup [.int p.1, .int p.2]) := ix_iff (at_ps h0 h hz)
/-- along roads from a place: where one comes to -/
def walk (ps : List (Int × Int)) : Int → List Int → Option Int
  | a, [] => some a
  | a, r :: t => if 0 ≤ r then (match ps[r.toNat]? with
    | some p => if p.1 = a then walk ps p.2 t else none
    | none => none) else none
theorem walk_cons {ps : List (Int × Int)} {a r b : Int} {t : List Int} (h : walk ps a (r :: t) = some b) : 0 ≤ r ∧ ∃ p, ps[r.toNat]? = some p ∧ p.1 = a ∧ walk ps p.2 t = some b := by
  unfold walk at h
  split at h
  · rename_i h0
    split at h
    · rename_i p hp
      split at h
      · rename_i e
        exact ⟨h0, p, hp, e, h⟩
      · cases h
    · cases h
  · cases h
theorem walk_mk {ps : List (Int × Int)} {a r b : Int} {t : List Int} {p : Int × Int} (h0 : 0 ≤ r) (hp : ps[r.toNat]? = some p) (e : p.1 = a) (h : walk ps p.2 t = some b) : walk ps a (r :: t) = some b := by
  unfold walk
  rw [if_pos h0, hp]
  show (if p.1 = a then _ else _) = _
  rw [if_pos e]; exact h
theorem walk_snoc {ps : List (Int × Int)} {r : Int} {p : Int × Int} (h0 : 0 ≤ r) (hp : ps[r.toNat]? = some p) : ∀ {t : List Int} {a b : Int}, walk ps a t = some b → p.1 = b → walk ps a (t ++ [r]) = some p.2
  | [], a, b, h, e => by
    cases h
    exact walk_mk h0 hp e rfl
  | s :: t, a, b, h, e => by
    obtain ⟨s0, p', hp', e', h'⟩ := walk_cons h
    exact walk_mk s0 hp' e' (walk_snoc h0 hp h' e)
theorem walk_last {ps : List (Int × Int)} {r : Int} : ∀ {t : List Int} {a b : Int}, walk ps a (t ++ [r]) = some b → 0 ≤ r ∧ ∃ p, ps[r.toNat]? = some p ∧ p.2 = b
  | [], a, b, h => by
    obtain ⟨h0, p, hp, _, e⟩ := walk_cons h
    cases e
    exact ⟨h0, p, hp, rfl⟩
  | s :: t, a, b, h => by
    obtain ⟨_, p, _, _, h'⟩ := walk_cons h
    exact walk_last h'
theorem walk_up {m : Int} {ps : List (Int × Int)} (u : Up m ps) : ∀ {t : List Int} {a b : Int}, walk ps a t = some b → 0 ≤ a → a < m → a + t.length ≤ b ∧ b < m
  | [], a, b, h, _, h1 => by cases h; simp; omega
  | r :: t, a, b, h, h0, h1 => by
    obtain ⟨_, p, hp, e, h'⟩ := walk_cons h
    have up := u p (List.mem_of_getElem? hp)
    have := walk_up u h' (by omega) up.2.2
    rw [List.length_cons]
    omega
theorem walk_in {ps : List (Int × Int)} : ∀ {t : List Int} {a b : Int}, walk ps a t = some b → ∀ r ∈ t, 0 ≤ r ∧ r < ps.length
  | [], _, _, _ => fun _ h => nomatch h
  | r :: t, a, b, h => by
    obtain ⟨h0, p, hp, _, h'⟩ := walk_cons h
    intro x hx
    rcases List.mem_cons.mp hx with rfl | hx
    · have := (List.getElem?_eq_some_iff.mp hp).1
      exact ⟨h0, by omega⟩
    · exact walk_in h' x hx
theorem whl_cut {Γ : Gam} (gm : GMono Γ) {c : E} {b ss : Ss} {P : Po} {σ : Sl} {M : Mem} (I : Nat → Sl → Mem → Prop) (h0 : ∃ m, I m σ M)
    (hs : ∀ m σ1 M1, I m σ1 M1 → ∃ k : Bool, wp Γ c σ1 M1 (fun x m => P.xe x σ1 m) (fun x M2 => M2 = M1 ∧ truth (shr x) M1 fun k' => k' = k) ∧
      if k = true then wss Γ b { nx := fun σ3 M3 => ∃ m', m' < m ∧ I m' σ3 M3, ct := fun σ3 M3 => ∃ m', m' < m ∧ I m' σ3 M3, bk := fun σ' M' => wss Γ ss P σ' M', rt := P.rt, xe := P.xe } σ1 M1 else wss Γ ss P σ1 M1) :
    wss Γ (.cons (.whl c b) ss) P σ M := by
  refine ⟨I, h0, fun m σ1 M1 h => ?_⟩
  obtain ⟨k, h1, h2⟩ := hs m σ1 M1 h
  refine wp_mono gm c _ _ _ _ _ (fun x M2 hx => ?_) h1
  obtain ⟨rfl, hx⟩ := hx
  exact truth_mono (fun b hb => by subst hb; exact h2) hx
theorem atM {M : Mem} {c : Cell} : (M ++ [c])[M.length]? = some c := by simp
theorem setM {M : Mem} {c c' : Cell} : (M ++ [c]).set M.length c' = M ++ [c'] := by simp
theorem ints_shpT (is : List Int) : SeqAt.shaped (.tuple (is.map PyData.int)) = true := by
  have h1 : PyData.canLayAll0 (is.map PyData.int) = true := by
    induction is with
    | nil => rfl
    | cons i is ih => simp [PyData.canLayAll0, PyData.canLay0, ih]
  have h2 : PyData.depthAll (is.map PyData.int) = 0 := by
    induction is with
    | nil => rfl
    | cons i is ih =>
      have : PyData.canLayAll0 (is.map PyData.int) = true := by
        simp only [List.map_cons, PyData.canLayAll0, Bool.and_eq_true] at h1; exact h1.2
      simp [PyData.depthAll, PyData.depth, ih this]
  show (PyData.canLayAll0 (is.map PyData.int) && decide (PyData.depthAll (is.map PyData.int) + 1 ≤ 64)) = true
  rw [h1, h2]; rfl
theorem eq_tnil {is : List Int} {M : Mem} {Q : Bool → Prop} (q : Q is.isEmpty) : opC .eq (.tup (is.map .int)) (.tup []) M Q :=
  .inr ⟨.tuple (is.map .int), .tuple [], .tup (ints_py is), .tup .nil, ints_shpT is, by decide, by
    show Q (PyData.eqvAll (is.map PyData.int) [])
    rw [(ints_py (M := M) is).empty (n := 0)]
    cases is <;> exact q⟩
theorem tupI_shp {t : List Int} : Shp (tupI t) := by
  have h : ∀ t : List Int, okDs (t.map D.int) = true ∧ PyData.canLayAll0 (toPys (t.map D.int)) = true ∧ PyData.depthAll (toPys (t.map D.int)) ≤ 0 := by
    intro t
    induction t with
    | nil => exact ⟨rfl, rfl, Nat.le_refl _⟩
    | cons i t ih => exact ⟨by simp [okDs, okD, ih.1], by simp [toPys, toPy, PyData.canLayAll0, PyData.canLay0, ih.2.1], by simp only [List.map_cons, toPys, toPy, PyData.depthAll, PyData.depth]; exact Nat.max_le.mpr ⟨Nat.le_refl _, ih.2.2⟩⟩
  obtain ⟨h1, h2, h3⟩ := h t
  exact ⟨h1, h2, by show PyData.depthAll _ + 1 ≤ 60; omega⟩
theorem ne_lnil {ts : List (List Int)} {M : Mem} {Q : Bool → Prop} (q : Q (!ts.isEmpty)) : opC .ne (.lst (ts.map tupI)) (.lst []) M Q := by
  have hs : ∀ y ∈ ts.map tupI, Shp y := fun y hy => by obtain ⟨t, _, rfl⟩ := List.mem_map.mp hy; exact tupI_shp
  refine ne_nil_l (pys_of _ (shps hs).1) (shp_list hs) ?_
  cases ts <;> exact q
theorem lift_map {f : D → D} {G : List Int → Prop} : ∀ {xs : List D}, (∀ x ∈ xs, ∃ e, f x = tupI e ∧ G e) → ∃ es : List (List Int), xs.map f = es.map tupI ∧ es.length = xs.length ∧ ∀ e ∈ es, G e
  | [], _ => ⟨[], rfl, rfl, fun _ h => nomatch h⟩
  | x :: xs, h => by
    obtain ⟨es, h1, h2, h3⟩ := lift_map fun y hy => h y (List.mem_cons_of_mem _ hy)
    obtain ⟨e, e1, e2⟩ := h x List.mem_cons_self
    refine ⟨e :: es, by rw [List.map_cons, List.map_cons, e1, h1], by simp [h2], fun z hz => ?_⟩
    rcases List.mem_cons.mp hz with rfl | hz
    · exact e2
    · exact h3 z hz
theorem atI_last {xs : List D} (h : xs ≠ []) : atI xs (-1) = xs[xs.length - 1]? := by
  have h0 : 0 < xs.length := List.length_pos_iff.mpr h
  unfold atI
  have e : ixN xs.length (-1) = some (xs.length - 1) := by
    unfold ixN
    rw [if_neg (by decide), if_pos (by omega)]
    congr 1
    omega
  rw [e]
  rfl
def onP (a : Int) : D → Bool
  | .tup [.int _, .tup [.int b, .int _]] => decide (b = a)
  | _ => false
def onF (t : List Int) : D → D
  | .tup [.int i, _] => .tup (t.map .int ++ [.int i])
  | _ => .non
theorem for_any {Γ : Gam} (gm : GMono Γ) {it : IT} {t : Tg} {body ss : Ss} {P : Po} {σ : Sl} {M : Mem} (R : List D → Gd → Mem → Prop) (hit : wpI Γ it σ M (fun x m => P.xe x σ m) R)
    (h : ∀ xs gd M1, R xs gd M1 → gd = [] ∧ ∃ I : Nat → Sl → Mem → Prop, I 0 σ M1 ∧ (∀ σ2 M2, I xs.length σ2 M2 → wss Γ ss P σ2 M2) ∧
      ∀ i x σ2 M2, xs[i]? = some x → I i σ2 M2 → wpTg t x σ2 fun σ3 => wss Γ body { nx := I (i + 1), ct := I (i + 1), bk := fun σ M => wss Γ ss P σ M, rt := P.rt, xe := P.xe } σ3 M2) : wss Γ (.cons (.for t it body) ss) P σ M := by
  refine wpI_mono gm it σ M _ _ _ (fun xs gd M1 hr => ?_) hit
  obtain ⟨rfl, I, h0, hend, hstep⟩ := h xs gd M1 hr
  exact ⟨I, h0, fun i σ2 M2 hi => ⟨(fun g hg => nomatch hg), fun e => hend σ2 M2 (by rw [e] at hi; exact hi), fun x hx => hstep i x σ2 M2 hx hi⟩⟩
theorem rng_mem {n : Nat} {x : D} (h : x ∈ rngD 0 n 1) : ∃ j : Int, x = .int j ∧ 0 ≤ j ∧ j < n := by
  obtain ⟨i, hi⟩ := List.mem_iff_getElem?.mp h
  obtain ⟨hil, hx⟩ := rng1 (P := fun i x => x = .int (0 + (i : Int) * 1)) (fun i _ => rfl) i x hi
  exact ⟨_, hx, by omega, by omega⟩
theorem ints_sm {t : List Int} (h : ∀ r ∈ t, -1000 ≤ r ∧ r ≤ 1000) {k : Nat} (hl : t.length ≤ k) : Sms (41 * k) 0 (t.map .int) := by
  have := Sms.all (w := 40) (dp := 0) (ds := t.map D.int) fun x hx => by
    obtain ⟨r, hr, rfl⟩ := List.mem_map.mp hx
    exact sm_i (h r hr).1 (h r hr).2
  refine this.mono ?_ (Nat.le_refl _)
  rw [List.length_map]
  exact Nat.mul_le_mul (Nat.le_refl _) hl
theorem opSet_mono {x i d : D} {M : Mem} {R R' : Mem → Prop} (k : ∀ m, R m → R' m) (h : opSet x i d M R) : opSet x i d M R' := by
  rcases h with ⟨a, b, c, e, h1, h2, h3, h4, h5⟩ | ⟨a, b, c, h1, h2, h3, h4, h5⟩
  · exact .inl ⟨a, b, c, e, h1, h2, h3, h4, k _ h5⟩
  · exact .inr ⟨a, b, c, h1, h2, h3, h4, k _ h5⟩
theorem put_cut {Γ : Gam} (gm : GMono Γ) {o i e : E} {ss : Ss} {P : Po} {σ : Sl} {M : Mem} {R : Mem → Prop}
    (h : wp Γ e σ M (fun x m => P.xe x σ m) fun d M1 => wp Γ o σ M1 (fun x m => P.xe x σ m) fun x M2 => wp Γ i σ M2 (fun x m => P.xe x σ m) fun y M3 => opSet x (shr y) (shr d) M3 R)
    (q : ∀ M', R M' → wss Γ ss P σ M') : wss Γ (.cons (.put o i e) ss) P σ M :=
  wp_mono gm e _ _ _ _ _ (fun _ _ h => wp_mono gm o _ _ _ _ _ (fun _ _ h => wp_mono gm i _ _ _ _ _ (fun _ _ h => opSet_mono q h) h) h) h
theorem ret_cell {M ex : Mem} {Q : Kd} {n : Nat} {ys : List D} (hn : ex[n]? = some (.lst ys)) (h : noLocs ys = true) (q : Q (.fr (.lst ys)) M) : Ret M Q (.loc (M.length + n)) (M ++ ex) :=
  ⟨M, ex, rfl, kept_app, .inr (.inr (.inl ⟨_, ys, ys, rfl, by omega, by rw [List.getElem?_append_right (by omega)]; rw [show M.length + n - M.length = n by omega]; exact hn, Fzs.self _ h, q⟩))⟩
theorem cellM {M ex : Mem} {i : Nat} : (M ++ ex)[M.length + i]? = ex[i]? := by
  rw [List.getElem?_append_right (by omega)]
  congr 1; omega
theorem csetM {M ex : Mem} {i : Nat} {c : Cell} : (M ++ ex).set (M.length + i) c = M ++ ex.set i c := by
  rw [List.set_append_right _ _ (by omega)]
  congr 2; omega
theorem sm_big {i : Int} (h : i.natAbs < 10 ^ 100) : Sm 340 0 (.int i) := by
  have hl : i.natAbs.log2 < 339 := by
    by_cases z : i.natAbs = 0
    · rw [z]; decide
    · exact (Nat.log2_lt z).mpr (Nat.lt_of_lt_of_le h (by decide +kernel))
  refine ⟨rfl, ?_, Nat.le_refl _, ?_, ?_⟩
  · show decide (i.natAbs.log2 < 1920) = true
    exact decide_eq_true (by omega)
  · show decide ((PyData.shown (.int i)).length ≤ 1000) = true
    refine decide_eq_true (Nat.le_trans (m := 101) ?_ (by decide))
    have e := int_text_length_le10 (k := 100) (by decide) h
    show (Str.ofString (toString i)).length ≤ 101
    rw [PySem.ofString_length]; exact e
  · show (if i == 0 then 0 else i.natAbs.log2 + 1) ≤ 340
    split <;> omega
end LK

set_option Elab.async false
set_option maxRecDepth 100000
set_option linter.all false
namespace LK
open PySem L2 Lay RZ PyProof.Rows
/-- how many ways lead on from a place, by so many steps at most -/
def W (m : Int) (ps : List (Int × Int)) : Nat → Int → Int
  | 0, a => if a = m - 1 then 1 else 0
  | n + 1, a => if a = m - 1 then 1 else ((ps.filter fun p => decide (p.1 = a)).map fun p => W m ps n p.2).sum
theorem W_stab {m : Int} {ps : List (Int × Int)} (u : Up m ps) : ∀ (n : Nat) (a : Int), 0 ≤ a → a < m → m - 1 - a ≤ n → W m ps (n + 1) a = W m ps n a
  | 0, a, h0, h1, h2 => by
    have : a = m - 1 := by omega
    simp only [W]
    rw [if_pos this, if_pos this]
  | n + 1, a, h0, h1, h2 => by
    rw [W, W]
    split
    · rfl
    · refine congrArg List.sum (List.map_congr_left fun p hp => ?_)
      obtain ⟨hp1, hp2⟩ := List.mem_filter.mp hp
      have := u p hp1
      have e := of_decide_eq_true hp2
      exact W_stab u n p.2 (by omega) (by omega) (by omega)
def w (m : Int) (ps : List (Int × Int)) (a : Int) : Int := W m ps m.toNat a
def outs (ps : List (Int × Int)) (a : Int) : List (Int × Int) := ps.filter fun p => decide (p.1 = a)
theorem w_end {m : Int} {ps : List (Int × Int)} : w m ps (m - 1) = 1 := by
  unfold w
  cases m.toNat <;> simp [W]
theorem w_rec {m : Int} {ps : List (Int × Int)} (u : Up m ps) (m1 : 1 ≤ m) {a : Int} (h0 : 0 ≤ a) (h1 : a < m - 1) : w m ps a = ((outs ps a).map fun p => w m ps p.2).sum := by
  unfold w outs
  obtain ⟨k, hk⟩ : ∃ k, m.toNat = k + 1 := ⟨m.toNat - 1, by omega⟩
  rw [hk, W, if_neg (by omega)]
  refine congrArg List.sum (List.map_congr_left fun p hp => ?_)
  obtain ⟨hp1, hp2⟩ := List.mem_filter.mp hp
  have := u p hp1
  have e := of_decide_eq_true hp2
  exact (W_stab u k p.2 (by omega) (by omega) (by omega)).symm
theorem sum_le {f : Int × Int → Int} {B : Int} : ∀ {qs : List (Int × Int)}, (∀ p ∈ qs, 0 ≤ f p ∧ f p ≤ B) → 0 ≤ (qs.map f).sum ∧ (qs.map f).sum ≤ qs.length * B
  | [], _ => by simp
  | q :: qs, h => by
    have h1 := h q List.mem_cons_self
    have h2 := sum_le fun p hp => h p (List.mem_cons_of_mem _ hp)
    rw [List.map_cons, List.sum_cons, List.length_cons]
    rw [show ((qs.length + 1 : Nat) : Int) * B = qs.length * B + B by rw [Int.natCast_add, Int.add_mul]; simp]
    omega
theorem one_pow {L : Int} (h : 1 ≤ L) : ∀ n : Nat, 1 ≤ L ^ n
  | 0 => by simp
  | n + 1 => by
    rw [Int.pow_succ]
    have h1 := one_pow h n
    have := Int.mul_le_mul h1 h (by decide) (by omega)
    simpa using this
theorem W_le {m : Int} {ps : List (Int × Int)} {L : Int} (h : (ps.length : Int) ≤ L) (h1 : 1 ≤ L) : ∀ (n : Nat) (a : Int), 0 ≤ W m ps n a ∧ W m ps n a ≤ L ^ n
  | 0, a => by unfold W; split <;> simp
  | n + 1, a => by
    unfold W
    split
    · exact ⟨by decide, one_pow h1 (n + 1)⟩
    · have hs := sum_le (qs := ps.filter fun p => decide (p.1 = a)) (f := fun p => W m ps n p.2) (B := L ^ n) fun p _ => W_le h h1 n p.2
      refine ⟨hs.1, Int.le_trans hs.2 ?_⟩
      have hl : ((ps.filter fun p => decide (p.1 = a)).length : Int) ≤ L := by
        have := List.length_filter_le (fun p : Int × Int => decide (p.1 = a)) ps
        omega
      rw [Int.pow_succ, Int.mul_comm (L ^ n) L]
      exact Int.mul_le_mul_of_nonneg_right hl (Int.pow_nonneg (by omega))
theorem w_big {m : Int} {ps : List (Int × Int)} (h : ps.length ≤ 60) (hm : m ≤ 24) (a : Int) : 0 ≤ w m ps a ∧ (w m ps a).natAbs < 10 ^ 100 := by
  have h1 := W_le (m := m) (ps := ps) (L := 60) (by omega) (by decide) m.toNat a
  refine ⟨h1.1, ?_⟩
  have h2 : (60 : Int) ^ m.toNat ≤ 60 ^ 24 := by
    have g : ∀ n : Fin 25, (60 : Int) ^ n.val ≤ 60 ^ 24 := by decide +kernel
    exact g ⟨m.toNat, by omega⟩
  have h3 : w m ps a ≤ 60 ^ 24 := Int.le_trans h1.2 h2
  have h4 : (60 : Int) ^ 24 < 10 ^ 100 := by decide +kernel
  have h5 : 0 ≤ w m ps a := h1.1
  have h6 : ((w m ps a).natAbs : Int) = w m ps a := Int.natAbs_of_nonneg h5
  have h7 : ((w m ps a).natAbs : Int) < ((10 ^ 100 : Nat) : Int) := by rw [h6]; exact Int.lt_of_le_of_lt h3 (by simpa using h4)
  exact_mod_cast h7
/-- the ways told from a place on -/
def arr (m : Int) (ps : List (Int × Int)) (t : Int) : List D := (List.range m.toNat).map fun (j : Nat) => D.int (if t ≤ (j : Int) then w m ps j else 0)
theorem arr_len {m : Int} {ps : List (Int × Int)} {t : Int} : (arr m ps t).length = m.toNat := by simp [arr]
theorem arr_at {m : Int} {ps : List (Int × Int)} {t : Int} {j : Nat} (h : j < m.toNat) : (arr m ps t)[j]? = some (.int (if t ≤ (j : Int) then w m ps j else 0)) := by
  unfold arr
  rw [List.getElem?_map, List.getElem?_range h]; rfl
theorem arr_set {m : Int} {ps : List (Int × Int)} {t : Int} (h0 : 0 ≤ t) (h1 : t < m) : (arr m ps (t + 1)).set t.toNat (.int (w m ps t)) = arr m ps t := by
  refine List.ext_getElem? fun i => ?_
  rw [List.getElem?_set]
  split
  · rename_i e
    subst e
    rw [if_pos (by rw [arr_len]; omega), arr_at (by omega), Int.toNat_of_nonneg h0, if_pos (Int.le_refl _)]
  · rename_i e
    by_cases hi : i < m.toNat
    · rw [arr_at hi, arr_at hi]
      by_cases h2 : t ≤ (i : Int)
      · rw [if_pos h2, if_pos (by omega)]
      · rw [if_neg h2, if_neg (by omega)]
    · rw [List.getElem?_eq_none (by rw [arr_len]; omega), List.getElem?_eq_none (by rw [arr_len]; omega)]
theorem arr_0 {m : Int} {ps : List (Int × Int)} : (List.replicate m.toNat [D.int 0]).flatten = arr m ps m := by
  unfold arr
  have : ∀ n : Nat, (List.replicate n [D.int 0]).flatten = (List.range n).map fun _ => D.int 0 := by
    intro n
    induction n with
    | zero => rfl
    | succ n ih => rw [List.replicate_succ', List.flatten_append, ih, List.range_succ, List.map_append]; rfl
  rw [this]
  refine List.map_congr_left fun j hj => ?_
  have := List.mem_range.mp hj
  rw [if_neg (by omega)]
theorem arr_noLoc {m : Int} {ps : List (Int × Int)} {t : Int} : noLocs (arr m ps t) = true := by
  unfold arr
  generalize List.range m.toNat = l
  induction l with
  | nil => rfl
  | cons j l ih => simp only [List.map_cons, noLocs, noLoc, Bool.true_and]; exact ih
def inP (a : Int) : D → Bool
  | .tup [.int b, .int _] => decide (b = a)
  | _ => false
def inF (m : Int) (ps : List (Int × Int)) : D → D
  | .tup [.int _, .int b] => .int (w m ps b)
  | _ => .non
theorem ins_eq {m : Int} {ps : List (Int × Int)} {a : Int} : ∀ (qs : List (Int × Int)), ((qs.map pr).filter (inP a)).map (inF m ps) = ((outs qs a).map fun p => w m ps p.2).map D.int
  | [] => rfl
  | q :: qs => by
    have ih := ins_eq (m := m) (ps := ps) (a := a) qs
    unfold outs at ih ⊢
    rw [List.map_cons]
    by_cases h : decide (q.1 = a) = true
    · rw [List.filter_cons_of_pos (show inP a (pr q) = true from h), List.filter_cons_of_pos (p := fun p : Int × Int => decide (p.1 = a)) h, List.map_cons, List.map_cons, List.map_cons, ih]
      rfl
    · rw [List.filter_cons_of_neg (show ¬ inP a (pr q) = true from h), List.filter_cons_of_neg (p := fun p : Int × Int => decide (p.1 = a)) h, ih]
def sp_ways : SD := fun ds M _ Q => ∃ m ps, ds = [netD m ps] ∧ 2 ≤ m ∧ m ≤ 24 ∧ ps.length ≤ 60 ∧ Up m ps ∧ Q (.fr (.lst (arr m ps 0))) M
/-- from out to in -/
theorem ways_loop {Γ : Gam} (gm : GMono Γ) {ss : Ss} {P : Po} {M : Mem} {m : Int} {ps : List (Int × Int)} {c2 c3 c4 : Option D} (m2 : 2 ≤ m) (m24 : m ≤ 24) (hp : ps.length ≤ 60) (u : Up m ps)
    (hend : ∀ c2 c3 c4, wss Γ ss P [some (netD m ps), some (.loc (M.length + 1)), c2, c3, c4] (M ++ [.lst [.int 0], .lst (arr m ps 0)])) :
    wss Γ (.cons (.for (.nm 2) (.rng (.cons (.bin .sub (.ix (.v 0) (.c (.int 0))) (.c (.int 2))) (.cons (.neg (.c (.int 1))) (.cons (.neg (.c (.int 1))) .nil)))) (.cons (.put (.v 1) (.v 2) (.bf .sum (.cons (.lc (.tup (.cons (.nm 3) (.cons (.nm 4) .nil))) (.seq (.ix (.v 0) (.c (.int 1)))) (.some (.cmp (.v 3) (.one .eq (.v 2)))) (.ix (.v 1) (.v 4)) [3, 4]) .nil))) .nil)) ss) P [some (netD m ps), some (.loc (M.length + 1)), c2, c3, c4] (M ++ [.lst [.int 0], .lst (arr m ps (m - 1))]) := by
  have hsz : sizeLine = 16777216 := sizeLine_eq
  refine for_cut gm (M1 := M ++ [.lst [.int 0], .lst (arr m ps (m - 1))]) (rngD (m - 2) (m - 1).toNat (-1)) [] ?_ (fun i σ M' => ∃ c2 c3 c4 : Option D, i ≤ (m - 1).toNat ∧ M' = M ++ [.lst [.int 0], .lst (arr m ps (m - 1 - i))] ∧ σ = [some (netD m ps), some (.loc (M.length + 1)), c2, c3, c4]) ⟨_, _, _, Nat.zero_le _, by simp, rfl⟩ (fun _ _ _ _ g hg => nomatch hg) ?_ ?_
  · unfold netD
    simp only [wss, ws, wp.eq_1, wp.eq_2, wp.eq_3, wp.eq_4, wp.eq_5, wp.eq_6, wp.eq_7, wp.eq_8, wp.eq_9, wp.eq_10, wp.eq_11, wp.eq_12, wp.eq_13, wp.eq_14, wp.eq_15, wp.eq_16, wp.eq_17, wp.eq_18, wp.eq_19, wp.eq_20, wp.eq_22, wp.eq_23, wp.eq_24, wp.eq_25, wps, wpO, wpK, wpP, wpC, wpI, wpTg.eq_1, tg_tup, tg_fl, tg_cons, tg_nil, bodyPo, startD, shr_non, shr_bl, shr_int, shr_str, shr_ty, shr_tup, shr_lst, shr_fz, shr_dct, shr_loc, shr_fr, truth_bl, true_and, add_ii, sub_ii, mul_ii, fdiv_ii, mod_ii, pow_ii, lt_ii, le_ii, gt_ii, ge_ii, len_t, abs_i, int_i, int_b, Es.len, List.map_cons, List.map_nil, List.length_cons, List.length_nil, List.cons_append, List.nil_append, List.replicate_succ, List.replicate_zero, List.getElem?_cons_zero, List.getElem?_cons_succ, List.set_cons_zero, List.set_cons_succ, Option.some.injEq, exists_eq_left', Nat.zero_add, Nat.reduceAdd, Nat.reduceSub, eq_iff, ne_iff, ess_iff, nss_iff, max_iff, min_iff, isA_int, isA_bool, isA_tuple, isA_list, isA_str, okD_shr, ix0_2, ix1_2, ix0_3, ix1_3, ix2_3, ix0_1, decide_eq_true_eq, Bool.not_eq_true', Bool.not_eq_false', Bool.not_not, Bool.not_true, Bool.not_false, decide_eq_false_iff_not, List.cons.injEq, and_true, exists_and_left, exists_eq_left, exists_eq_right, D.int.injEq, if_true, if_false, Bool.false_eq_true, reduceCtorEq, ite_true, ite_false, D.tup.injEq, D.bl.injEq, D.str.injEq, Int.cast_ofNat_Int, Int.reduceEq, not_true_eq_false, not_false_eq_true, wipeD, List.foldr_cons, List.foldr_nil, add_tt, addll_iff, slt_iff, sll_iff, lstt_iff, lstl_iff, tupt_iff, tupl_iff, len_l, sizeLine_eq, Nat.reduceLeDiff]
    have hr : RgC (m - 2) (-1) (-1) (m - 1).toNat := by
      have := RgC.neg (i := m - 2) (j := -1) (by omega) (by omega) (by omega) (by omega)
      rwa [show m - 2 - -1 = m - 1 by omega] at this
    exact ⟨_, _, _, _, rfl, hr, rfl⟩
  · rintro σ M' ⟨c2, c3, c4, _, rfl, rfl⟩
    rw [rngD_len, show m - 1 - ((m - 1).toNat : Int) = 0 by omega]
    exact hend c2 c3 c4
  · rintro i x σ M' hx ⟨c2, c3, c4, hi, rfl, rfl⟩
    have hil : i < (m - 1).toNat := by
      have := (List.getElem?_eq_some_iff.mp hx).1
      rwa [rngD_len] at this
    rw [rngD_get hil] at hx
    cases hx
    have ea : m - 2 + (i : Int) * -1 = m - 1 - ((i + 1 : Nat) : Int) := by omega
    rw [ea]
    generalize ha : m - 1 - ((i + 1 : Nat) : Int) = a
    have ha2 : m - 1 - (i : Int) = a + 1 := by omega
    rw [ha2]
    unfold netD
    simp only [wss, ws, wp.eq_1, wp.eq_2, wp.eq_3, wp.eq_4, wp.eq_5, wp.eq_6, wp.eq_7, wp.eq_8, wp.eq_9, wp.eq_10, wp.eq_11, wp.eq_12, wp.eq_13, wp.eq_14, wp.eq_15, wp.eq_16, wp.eq_17, wp.eq_18, wp.eq_19, wp.eq_20, wp.eq_22, wp.eq_23, wp.eq_24, wp.eq_25, wps, wpO, wpK, wpP, wpC, wpI, wpTg.eq_1, tg_tup, tg_fl, tg_cons, tg_nil, bodyPo, startD, shr_non, shr_bl, shr_int, shr_str, shr_ty, shr_tup, shr_lst, shr_fz, shr_dct, shr_loc, shr_fr, truth_bl, true_and, add_ii, sub_ii, mul_ii, fdiv_ii, mod_ii, pow_ii, lt_ii, le_ii, gt_ii, ge_ii, len_t, abs_i, int_i, int_b, Es.len, List.map_cons, List.map_nil, List.length_cons, List.length_nil, List.cons_append, List.nil_append, List.replicate_succ, List.replicate_zero, List.getElem?_cons_zero, List.getElem?_cons_succ, List.set_cons_zero, List.set_cons_succ, Option.some.injEq, exists_eq_left', Nat.zero_add, Nat.reduceAdd, Nat.reduceSub, eq_iff, ne_iff, ess_iff, nss_iff, max_iff, min_iff, isA_int, isA_bool, isA_tuple, isA_list, isA_str, okD_shr, ix0_2, ix1_2, ix0_3, ix1_3, ix2_3, ix0_1, decide_eq_true_eq, Bool.not_eq_true', Bool.not_eq_false', Bool.not_not, Bool.not_true, Bool.not_false, decide_eq_false_iff_not, List.cons.injEq, and_true, exists_and_left, exists_eq_left, exists_eq_right, D.int.injEq, if_true, if_false, Bool.false_eq_true, reduceCtorEq, ite_true, ite_false, D.tup.injEq, D.bl.injEq, D.str.injEq, Int.cast_ofNat_Int, Int.reduceEq, not_true_eq_false, not_false_eq_true, wipeD, List.foldr_cons, List.foldr_nil, add_tt, addll_iff, slt_iff, sll_iff, lstt_iff, lstl_iff, tupt_iff, tupl_iff, len_l, sizeLine_eq, Nat.reduceLeDiff]
    refine lc_cut gm (xs := ps.map pr) (gd := []) (inP a) (inF m ps) ?_ (fun g hg => nomatch hg) ?_ (by rw [List.length_map]; omega) ?_
    · simp only [wss, ws, wp.eq_1, wp.eq_2, wp.eq_3, wp.eq_4, wp.eq_5, wp.eq_6, wp.eq_7, wp.eq_8, wp.eq_9, wp.eq_10, wp.eq_11, wp.eq_12, wp.eq_13, wp.eq_14, wp.eq_15, wp.eq_16, wp.eq_17, wp.eq_18, wp.eq_19, wp.eq_20, wp.eq_22, wp.eq_23, wp.eq_24, wp.eq_25, wps, wpO, wpK, wpP, wpC, wpI, wpTg.eq_1, tg_tup, tg_fl, tg_cons, tg_nil, bodyPo, startD, shr_non, shr_bl, shr_int, shr_str, shr_ty, shr_tup, shr_lst, shr_fz, shr_dct, shr_loc, shr_fr, truth_bl, true_and, add_ii, sub_ii, mul_ii, fdiv_ii, mod_ii, pow_ii, lt_ii, le_ii, gt_ii, ge_ii, len_t, abs_i, int_i, int_b, Es.len, List.map_cons, List.map_nil, List.length_cons, List.length_nil, List.cons_append, List.nil_append, List.replicate_succ, List.replicate_zero, List.getElem?_cons_zero, List.getElem?_cons_succ, List.set_cons_zero, List.set_cons_succ, Option.some.injEq, exists_eq_left', Nat.zero_add, Nat.reduceAdd, Nat.reduceSub, eq_iff, ne_iff, ess_iff, nss_iff, max_iff, min_iff, isA_int, isA_bool, isA_tuple, isA_list, isA_str, okD_shr, ix0_2, ix1_2, ix0_3, ix1_3, ix2_3, ix0_1, decide_eq_true_eq, Bool.not_eq_true', Bool.not_eq_false', Bool.not_not, Bool.not_true, Bool.not_false, decide_eq_false_iff_not, List.cons.injEq, and_true, exists_and_left, exists_eq_left, exists_eq_right, D.int.injEq, if_true, if_false, Bool.false_eq_true, reduceCtorEq, ite_true, ite_false, D.tup.injEq, D.bl.injEq, D.str.injEq, Int.cast_ofNat_Int, Int.reduceEq, not_true_eq_false, not_false_eq_true, wipeD, List.foldr_cons, List.foldr_nil, add_tt, addll_iff, slt_iff, sll_iff, lstt_iff, lstl_iff, tupt_iff, tupl_iff, len_l, sizeLine_eq, Nat.reduceLeDiff]
      exact it_t (by simp)
    · intro k y hy
      rw [List.getElem?_map] at hy
      obtain ⟨p, hp', rfl⟩ := Option.map_eq_some_iff.mp hy
      have up := u p (List.mem_of_getElem? hp')
      unfold pr
      simp only [wss, ws, wp.eq_1, wp.eq_2, wp.eq_3, wp.eq_4, wp.eq_5, wp.eq_6, wp.eq_7, wp.eq_8, wp.eq_9, wp.eq_10, wp.eq_11, wp.eq_12, wp.eq_13, wp.eq_14, wp.eq_15, wp.eq_16, wp.eq_17, wp.eq_18, wp.eq_19, wp.eq_20, wp.eq_22, wp.eq_23, wp.eq_24, wp.eq_25, wps, wpO, wpK, wpP, wpC, wpI, wpTg.eq_1, tg_tup, tg_fl, tg_cons, tg_nil, bodyPo, startD, shr_non, shr_bl, shr_int, shr_str, shr_ty, shr_tup, shr_lst, shr_fz, shr_dct, shr_loc, shr_fr, truth_bl, true_and, add_ii, sub_ii, mul_ii, fdiv_ii, mod_ii, pow_ii, lt_ii, le_ii, gt_ii, ge_ii, len_t, abs_i, int_i, int_b, Es.len, List.map_cons, List.map_nil, List.length_cons, List.length_nil, List.cons_append, List.nil_append, List.replicate_succ, List.replicate_zero, List.getElem?_cons_zero, List.getElem?_cons_succ, List.set_cons_zero, List.set_cons_succ, Option.some.injEq, exists_eq_left', Nat.zero_add, Nat.reduceAdd, Nat.reduceSub, eq_iff, ne_iff, ess_iff, nss_iff, max_iff, min_iff, isA_int, isA_bool, isA_tuple, isA_list, isA_str, okD_shr, ix0_2, ix1_2, ix0_3, ix1_3, ix2_3, ix0_1, decide_eq_true_eq, Bool.not_eq_true', Bool.not_eq_false', Bool.not_not, Bool.not_true, Bool.not_false, decide_eq_false_iff_not, List.cons.injEq, and_true, exists_and_left, exists_eq_left, exists_eq_right, D.int.injEq, if_true, if_false, Bool.false_eq_true, reduceCtorEq, ite_true, ite_false, D.tup.injEq, D.bl.injEq, D.str.injEq, Int.cast_ofNat_Int, Int.reduceEq, not_true_eq_false, not_false_eq_true, wipeD, List.foldr_cons, List.foldr_nil, add_tt, addll_iff, slt_iff, sll_iff, lstt_iff, lstl_iff, tupt_iff, tupl_iff, len_l, sizeLine_eq, Nat.reduceLeDiff, wpK]
      refine ⟨rfl, fun h => ?_⟩
      have e := of_decide_eq_true (show decide (p.1 = a) = true from h)
      refine ix_sq (y := .int (w m ps p.2)) (sq_loc cellM) ?_ rfl
      have := atI_nat (xs := arr m ps (a + 1)) (k := p.2.toNat) (x := .int (w m ps p.2)) (by rw [arr_at (by omega), Int.toNat_of_nonneg (by omega), if_pos (by omega)]) (by rw [arr_len]; omega)
      rwa [Int.toNat_of_nonneg (by omega)] at this
    · rw [ins_eq ps]
      simp only [wss, ws, wp.eq_1, wp.eq_2, wp.eq_3, wp.eq_4, wp.eq_5, wp.eq_6, wp.eq_7, wp.eq_8, wp.eq_9, wp.eq_10, wp.eq_11, wp.eq_12, wp.eq_13, wp.eq_14, wp.eq_15, wp.eq_16, wp.eq_17, wp.eq_18, wp.eq_19, wp.eq_20, wp.eq_22, wp.eq_23, wp.eq_24, wp.eq_25, wps, wpO, wpK, wpP, wpC, wpI, wpTg.eq_1, tg_tup, tg_fl, tg_cons, tg_nil, bodyPo, startD, shr_non, shr_bl, shr_int, shr_str, shr_ty, shr_tup, shr_lst, shr_fz, shr_dct, shr_loc, shr_fr, truth_bl, true_and, add_ii, sub_ii, mul_ii, fdiv_ii, mod_ii, pow_ii, lt_ii, le_ii, gt_ii, ge_ii, len_t, abs_i, int_i, int_b, Es.len, List.map_cons, List.map_nil, List.length_cons, List.length_nil, List.cons_append, List.nil_append, List.replicate_succ, List.replicate_zero, List.getElem?_cons_zero, List.getElem?_cons_succ, List.set_cons_zero, List.set_cons_succ, Option.some.injEq, exists_eq_left', Nat.zero_add, Nat.reduceAdd, Nat.reduceSub, eq_iff, ne_iff, ess_iff, nss_iff, max_iff, min_iff, isA_int, isA_bool, isA_tuple, isA_list, isA_str, okD_shr, ix0_2, ix1_2, ix0_3, ix1_3, ix2_3, ix0_1, decide_eq_true_eq, Bool.not_eq_true', Bool.not_eq_false', Bool.not_not, Bool.not_true, Bool.not_false, decide_eq_false_iff_not, List.cons.injEq, and_true, exists_and_left, exists_eq_left, exists_eq_right, D.int.injEq, if_true, if_false, Bool.false_eq_true, reduceCtorEq, ite_true, ite_false, D.tup.injEq, D.bl.injEq, D.str.injEq, Int.cast_ofNat_Int, Int.reduceEq, not_true_eq_false, not_false_eq_true, wipeD, List.foldr_cons, List.foldr_nil, add_tt, addll_iff, slt_iff, sll_iff, lstt_iff, lstl_iff, tupt_iff, tupl_iff, len_l, sizeLine_eq, Nat.reduceLeDiff]
      refine ⟨_, _, _, rfl, rfl, allInts_map _, ?_⟩
      rw [← w_rec u (by omega) (by omega) (by omega)]
      refine .inl ⟨_, _, _, a.toNat, rfl, cellM, rfl, ?_, ?_⟩
      · unfold ixN
        rw [arr_len, if_pos (by omega), if_pos (by omega)]
      · rw [csetM]
        refine ⟨by omega, ?_, _, rfl⟩
        show M ++ [_, Cell.lst ((arr m ps (a + 1)).set a.toNat (.int (w m ps a)))] = _
        rw [arr_set (by omega) (by omega)]
theorem w_ways_on (Γ : Gam) (gm : GMono Γ) (ds : List D) (M : Mem) (X : XP) (Q : Kd) (hl : ds.length = sig_ways_on.ps.length) (h : sp_ways ds M X Q) : wss Γ ir_ways_on (bodyPo M X Q) (startD cc_ways_on.N ds) M := by
  obtain ⟨m, ps, rfl, m2, m24, pl, u, q⟩ := h
  unfold ir_ways_on cc_ways_on
  have hsz : sizeLine = 16777216 := sizeLine_eq
  refine asg_cut gm (R := fun d M1 => d = .loc (M.length + 1) ∧ M1 = M ++ [.lst [.int 0], .lst (arr m ps m)]) ?_ ?_
  · unfold netD
    simp only [wss, ws, wp.eq_1, wp.eq_2, wp.eq_3, wp.eq_4, wp.eq_5, wp.eq_6, wp.eq_7, wp.eq_8, wp.eq_9, wp.eq_10, wp.eq_11, wp.eq_12, wp.eq_13, wp.eq_14, wp.eq_15, wp.eq_16, wp.eq_17, wp.eq_18, wp.eq_19, wp.eq_20, wp.eq_22, wp.eq_23, wp.eq_24, wp.eq_25, wps, wpO, wpK, wpP, wpC, wpI, wpTg.eq_1, tg_tup, tg_fl, tg_cons, tg_nil, bodyPo, startD, shr_non, shr_bl, shr_int, shr_str, shr_ty, shr_tup, shr_lst, shr_fz, shr_dct, shr_loc, shr_fr, truth_bl, true_and, add_ii, sub_ii, mul_ii, fdiv_ii, mod_ii, pow_ii, lt_ii, le_ii, gt_ii, ge_ii, len_t, abs_i, int_i, int_b, Es.len, List.map_cons, List.map_nil, List.length_cons, List.length_nil, List.cons_append, List.nil_append, List.replicate_succ, List.replicate_zero, List.getElem?_cons_zero, List.getElem?_cons_succ, List.set_cons_zero, List.set_cons_succ, Option.some.injEq, exists_eq_left', Nat.zero_add, Nat.reduceAdd, Nat.reduceSub, eq_iff, ne_iff, ess_iff, nss_iff, max_iff, min_iff, isA_int, isA_bool, isA_tuple, isA_list, isA_str, okD_shr, ix0_2, ix1_2, ix0_3, ix1_3, ix2_3, ix0_1, decide_eq_true_eq, Bool.not_eq_true', Bool.not_eq_false', Bool.not_not, Bool.not_true, Bool.not_false, decide_eq_false_iff_not, List.cons.injEq, and_true, exists_and_left, exists_eq_left, exists_eq_right, D.int.injEq, if_true, if_false, Bool.false_eq_true, reduceCtorEq, ite_true, ite_false, D.tup.injEq, D.bl.injEq, D.str.injEq, Int.cast_ofNat_Int, Int.reduceEq, not_true_eq_false, not_false_eq_true, wipeD, List.foldr_cons, List.foldr_nil, add_tt, addll_iff, slt_iff, sll_iff, lstt_iff, lstl_iff, tupt_iff, tupl_iff, len_l, sizeLine_eq, Nat.reduceLeDiff]
    refine .inl ⟨[.int 0], rfl, .inr (.inl ⟨[.int 0], m, ls_loc atM, rfl, by omega, by omega, by simp; omega, .inl ⟨_, rfl, ?_⟩⟩)⟩
    rw [arr_0 (ps := ps)]
    simp
  rintro d M1 ⟨rfl, rfl⟩
  show wss Γ (.cons (.put _ _ _) _) _ [some (netD m ps), some (.loc (M.length + 1)), none, none, none] _
  refine ⟨_, rfl, 1, rfl, .inl ⟨_, _, _, (m - 1).toNat, rfl, cellM, rfl, ?_, ?_⟩⟩
  · unfold ixN
    rw [arr_len, if_neg (by decide), if_pos (by omega)]
    congr 1
    omega
  rw [csetM]
  have e1 : (arr m ps m).set (m - 1).toNat (.int 1) = arr m ps (m - 1) := by
    have := arr_set (m := m) (ps := ps) (t := m - 1) (by omega) (by omega)
    rw [w_end, show m - 1 + 1 = m by omega] at this
    exact this
  show wss Γ (.cons (.for _ _ _) _) _ [some (netD m ps), some (.loc (M.length + 1)), none, none, none] (M ++ [.lst [.int 0], .lst ((arr m ps m).set (m - 1).toNat (.int 1))])
  rw [e1]
  refine ways_loop gm m2 m24 pl u fun c2 c3 c4 => ?_
  simp only [wss, ws, wp.eq_1, wp.eq_2, wp.eq_3, wp.eq_4, wp.eq_5, wp.eq_6, wp.eq_7, wp.eq_8, wp.eq_9, wp.eq_10, wp.eq_11, wp.eq_12, wp.eq_13, wp.eq_14, wp.eq_15, wp.eq_16, wp.eq_17, wp.eq_18, wp.eq_19, wp.eq_20, wp.eq_22, wp.eq_23, wp.eq_24, wp.eq_25, wps, wpO, wpK, wpP, wpC, wpI, wpTg.eq_1, tg_tup, tg_fl, tg_cons, tg_nil, bodyPo, startD, shr_non, shr_bl, shr_int, shr_str, shr_ty, shr_tup, shr_lst, shr_fz, shr_dct, shr_loc, shr_fr, truth_bl, true_and, add_ii, sub_ii, mul_ii, fdiv_ii, mod_ii, pow_ii, lt_ii, le_ii, gt_ii, ge_ii, len_t, abs_i, int_i, int_b, Es.len, List.map_cons, List.map_nil, List.length_cons, List.length_nil, List.cons_append, List.nil_append, List.replicate_succ, List.replicate_zero, List.getElem?_cons_zero, List.getElem?_cons_succ, List.set_cons_zero, List.set_cons_succ, Option.some.injEq, exists_eq_left', Nat.zero_add, Nat.reduceAdd, Nat.reduceSub, eq_iff, ne_iff, ess_iff, nss_iff, max_iff, min_iff, isA_int, isA_bool, isA_tuple, isA_list, isA_str, okD_shr, ix0_2, ix1_2, ix0_3, ix1_3, ix2_3, ix0_1, decide_eq_true_eq, Bool.not_eq_true', Bool.not_eq_false', Bool.not_not, Bool.not_true, Bool.not_false, decide_eq_false_iff_not, List.cons.injEq, and_true, exists_and_left, exists_eq_left, exists_eq_right, D.int.injEq, if_true, if_false, Bool.false_eq_true, reduceCtorEq, ite_true, ite_false, D.tup.injEq, D.bl.injEq, D.str.injEq, Int.cast_ofNat_Int, Int.reduceEq, not_true_eq_false, not_false_eq_true, wipeD, List.foldr_cons, List.foldr_nil, add_tt, addll_iff, slt_iff, sll_iff, lstt_iff, lstl_iff, tupt_iff, tupl_iff, len_l, sizeLine_eq, Nat.reduceLeDiff]
  exact ret_cell (ex := [.lst [.int 0], .lst (arr m ps 0)]) (n := 1) rfl arr_noLoc q
def iv : D → Int
  | .int i => i
  | _ => 0
/-- a road begins (b), ends there -/
def sel (b : Bool) (a : Int) : D → Bool
  | .tup [.int _, .tup [.int x, .int y]] => decide ((if b = true then x else y) = a)
  | _ => false
def enI : D → Int
  | .tup [.int i, _] => i
  | _ => 0
def idx (b : Bool) (a : Int) (ps : List (Int × Int)) : List Int := ((enumFrom 0 (ps.map pr)).filter (sel b a)).map enI
theorem idx_in {b : Bool} {a : Int} {ps : List (Int × Int)} : ∀ r ∈ idx b a ps, 0 ≤ r ∧ r < ps.length := fun r hr => by
  obtain ⟨x, hx, rfl⟩ := List.mem_map.mp hr
  obtain ⟨i, hi⟩ := List.mem_iff_getElem?.mp (List.mem_filter.mp hx).1
  obtain ⟨d, hd, rfl⟩ := enum_at hi
  have := (List.getElem?_eq_some_iff.mp hd).1
  rw [List.length_map] at this
  show 0 ≤ ((0 + i : Nat) : Int) ∧ ((0 + i : Nat) : Int) < ps.length
  omega
theorem idx_len {b : Bool} {a : Int} {ps : List (Int × Int)} : (idx b a ps).length ≤ ps.length := by
  unfold idx
  rw [List.length_map]
  have := List.length_filter_le (sel b a) (enumFrom 0 (ps.map pr))
  rw [enum_len, List.length_map] at this
  exact this
theorem fl1 {b : Bool} {a : Int} {ps : List (Int × Int)} : ((enumFrom 0 (ps.map pr)).filter (sel b a)).map (fun x => D.int (enI x)) = (idx b a ps).map .int := by
  unfold idx; rw [List.map_map]; rfl
def sp_roads (b : Bool) : SD := fun ds M _ Q => ∃ m ps a, ds = [netD m ps, .int a] ∧ ps.length ≤ 1000 ∧ Q (.tup ((idx b a ps).map .int)) M
def sp_from : SD := sp_roads true
theorem noIntsI (gs : List Int) : noLocs (gs.map D.int) = true := by
  induction gs with
  | nil => rfl
  | cons g gs ih => simp only [List.map_cons, noLocs, noLoc, Bool.true_and]; exact ih
theorem noIntsT {is : List Int} : noLoc (.tup (is.map .int)) = true := by simp only [noLoc]; exact noIntsI _
theorem w_roads_from (Γ : Gam) (gm : GMono Γ) (ds : List D) (M : Mem) (X : XP) (Q : Kd) (hl : ds.length = sig_roads_from.ps.length) (h : sp_from ds M X Q) : wss Γ ir_roads_from (bodyPo M X Q) (startD cc_roads_from.N ds) M := by
  obtain ⟨m, ps, a, rfl, hz, q⟩ := h
  unfold ir_roads_from cc_roads_from netD
  have hsz : sizeLine = 16777216 := sizeLine_eq
  simp only [wss, ws, wp.eq_1, wp.eq_2, wp.eq_3, wp.eq_4, wp.eq_5, wp.eq_6, wp.eq_7, wp.eq_8, wp.eq_9, wp.eq_10, wp.eq_11, wp.eq_12, wp.eq_13, wp.eq_14, wp.eq_15, wp.eq_16, wp.eq_17, wp.eq_18, wp.eq_19, wp.eq_20, wp.eq_22, wp.eq_23, wp.eq_24, wp.eq_25, wps, wpO, wpK, wpP, wpC, wpI, wpTg.eq_1, tg_tup, tg_fl, tg_cons, tg_nil, bodyPo, startD, shr_non, shr_bl, shr_int, shr_str, shr_ty, shr_tup, shr_lst, shr_fz, shr_dct, shr_loc, shr_fr, truth_bl, true_and, add_ii, sub_ii, mul_ii, fdiv_ii, mod_ii, pow_ii, lt_ii, le_ii, gt_ii, ge_ii, len_t, abs_i, int_i, int_b, Es.len, List.map_cons, List.map_nil, List.length_cons, List.length_nil, List.cons_append, List.nil_append, List.replicate_succ, List.replicate_zero, List.getElem?_cons_zero, List.getElem?_cons_succ, List.set_cons_zero, List.set_cons_succ, Option.some.injEq, exists_eq_left', Nat.zero_add, Nat.reduceAdd, Nat.reduceSub, eq_iff, ne_iff, ess_iff, nss_iff, max_iff, min_iff, isA_int, isA_bool, isA_tuple, isA_list, isA_str, okD_shr, ix0_2, ix1_2, ix0_3, ix1_3, ix2_3, ix0_1, decide_eq_true_eq, Bool.not_eq_true', Bool.not_eq_false', Bool.not_not, Bool.not_true, Bool.not_false, decide_eq_false_iff_not, List.cons.injEq, and_true, exists_and_left, exists_eq_left, exists_eq_right, D.int.injEq, if_true, if_false, Bool.false_eq_true, reduceCtorEq, ite_true, ite_false, D.tup.injEq, D.bl.injEq, D.str.injEq, Int.cast_ofNat_Int, Int.reduceEq, not_true_eq_false, not_false_eq_true, wipeD, List.foldr_cons, List.foldr_nil, add_tt, addll_iff, slt_iff, sll_iff, lstt_iff, lstl_iff, tupt_iff, tupl_iff, len_l, sizeLine_eq, Nat.reduceLeDiff]
  refine lc_cut gm (xs := enumFrom 0 (ps.map pr)) (gd := []) (sel true a) (fun x => .int (enI x)) ?_ (fun g hg => nomatch hg) ?_ (by rw [enum_len, List.length_map]; omega) ?_
  · simp only [wss, ws, wp.eq_1, wp.eq_2, wp.eq_3, wp.eq_4, wp.eq_5, wp.eq_6, wp.eq_7, wp.eq_8, wp.eq_9, wp.eq_10, wp.eq_11, wp.eq_12, wp.eq_13, wp.eq_14, wp.eq_15, wp.eq_16, wp.eq_17, wp.eq_18, wp.eq_19, wp.eq_20, wp.eq_22, wp.eq_23, wp.eq_24, wp.eq_25, wps, wpO, wpK, wpP, wpC, wpI, wpTg.eq_1, tg_tup, tg_fl, tg_cons, tg_nil, bodyPo, startD, shr_non, shr_bl, shr_int, shr_str, shr_ty, shr_tup, shr_lst, shr_fz, shr_dct, shr_loc, shr_fr, truth_bl, true_and, add_ii, sub_ii, mul_ii, fdiv_ii, mod_ii, pow_ii, lt_ii, le_ii, gt_ii, ge_ii, len_t, abs_i, int_i, int_b, Es.len, List.map_cons, List.map_nil, List.length_cons, List.length_nil, List.cons_append, List.nil_append, List.replicate_succ, List.replicate_zero, List.getElem?_cons_zero, List.getElem?_cons_succ, List.set_cons_zero, List.set_cons_succ, Option.some.injEq, exists_eq_left', Nat.zero_add, Nat.reduceAdd, Nat.reduceSub, eq_iff, ne_iff, ess_iff, nss_iff, max_iff, min_iff, isA_int, isA_bool, isA_tuple, isA_list, isA_str, okD_shr, ix0_2, ix1_2, ix0_3, ix1_3, ix2_3, ix0_1, decide_eq_true_eq, Bool.not_eq_true', Bool.not_eq_false', Bool.not_not, Bool.not_true, Bool.not_false, decide_eq_false_iff_not, List.cons.injEq, and_true, exists_and_left, exists_eq_left, exists_eq_right, D.int.injEq, if_true, if_false, Bool.false_eq_true, reduceCtorEq, ite_true, ite_false, D.tup.injEq, D.bl.injEq, D.str.injEq, Int.cast_ofNat_Int, Int.reduceEq, not_true_eq_false, not_false_eq_true, wipeD, List.foldr_cons, List.foldr_nil, add_tt, addll_iff, slt_iff, sll_iff, lstt_iff, lstl_iff, tupt_iff, tupl_iff, len_l, sizeLine_eq, Nat.reduceLeDiff]
    exact it_t (by simp)
  · intro i x hx
    obtain ⟨d, hd, rfl⟩ := enum_at hx
    rw [List.getElem?_map] at hd
    obtain ⟨p, hp, rfl⟩ := Option.map_eq_some_iff.mp hd
    unfold pr
    simp only [wss, ws, wp.eq_1, wp.eq_2, wp.eq_3, wp.eq_4, wp.eq_5, wp.eq_6, wp.eq_7, wp.eq_8, wp.eq_9, wp.eq_10, wp.eq_11, wp.eq_12, wp.eq_13, wp.eq_14, wp.eq_15, wp.eq_16, wp.eq_17, wp.eq_18, wp.eq_19, wp.eq_20, wp.eq_22, wp.eq_23, wp.eq_24, wp.eq_25, wps, wpO, wpK, wpP, wpC, wpI, wpTg.eq_1, tg_tup, tg_fl, tg_cons, tg_nil, bodyPo, startD, shr_non, shr_bl, shr_int, shr_str, shr_ty, shr_tup, shr_lst, shr_fz, shr_dct, shr_loc, shr_fr, truth_bl, true_and, add_ii, sub_ii, mul_ii, fdiv_ii, mod_ii, pow_ii, lt_ii, le_ii, gt_ii, ge_ii, len_t, abs_i, int_i, int_b, Es.len, List.map_cons, List.map_nil, List.length_cons, List.length_nil, List.cons_append, List.nil_append, List.replicate_succ, List.replicate_zero, List.getElem?_cons_zero, List.getElem?_cons_succ, List.set_cons_zero, List.set_cons_succ, Option.some.injEq, exists_eq_left', Nat.zero_add, Nat.reduceAdd, Nat.reduceSub, eq_iff, ne_iff, ess_iff, nss_iff, max_iff, min_iff, isA_int, isA_bool, isA_tuple, isA_list, isA_str, okD_shr, ix0_2, ix1_2, ix0_3, ix1_3, ix2_3, ix0_1, decide_eq_true_eq, Bool.not_eq_true', Bool.not_eq_false', Bool.not_not, Bool.not_true, Bool.not_false, decide_eq_false_iff_not, List.cons.injEq, and_true, exists_and_left, exists_eq_left, exists_eq_right, D.int.injEq, if_true, if_false, Bool.false_eq_true, reduceCtorEq, ite_true, ite_false, D.tup.injEq, D.bl.injEq, D.str.injEq, Int.cast_ofNat_Int, Int.reduceEq, not_true_eq_false, not_false_eq_true, wipeD, List.foldr_cons, List.foldr_nil, add_tt, addll_iff, slt_iff, sll_iff, lstt_iff, lstl_iff, tupt_iff, tupl_iff, len_l, sizeLine_eq, Nat.reduceLeDiff, wpK]
    exact ⟨rfl, fun _ => rfl⟩
  · simp only [wss, ws, wp.eq_1, wp.eq_2, wp.eq_3, wp.eq_4, wp.eq_5, wp.eq_6, wp.eq_7, wp.eq_8, wp.eq_9, wp.eq_10, wp.eq_11, wp.eq_12, wp.eq_13, wp.eq_14, wp.eq_15, wp.eq_16, wp.eq_17, wp.eq_18, wp.eq_19, wp.eq_20, wp.eq_22, wp.eq_23, wp.eq_24, wp.eq_25, wps, wpO, wpK, wpP, wpC, wpI, wpTg.eq_1, tg_tup, tg_fl, tg_cons, tg_nil, bodyPo, startD, shr_non, shr_bl, shr_int, shr_str, shr_ty, shr_tup, shr_lst, shr_fz, shr_dct, shr_loc, shr_fr, truth_bl, true_and, add_ii, sub_ii, mul_ii, fdiv_ii, mod_ii, pow_ii, lt_ii, le_ii, gt_ii, ge_ii, len_t, abs_i, int_i, int_b, Es.len, List.map_cons, List.map_nil, List.length_cons, List.length_nil, List.cons_append, List.nil_append, List.replicate_succ, List.replicate_zero, List.getElem?_cons_zero, List.getElem?_cons_succ, List.set_cons_zero, List.set_cons_succ, Option.some.injEq, exists_eq_left', Nat.zero_add, Nat.reduceAdd, Nat.reduceSub, eq_iff, ne_iff, ess_iff, nss_iff, max_iff, min_iff, isA_int, isA_bool, isA_tuple, isA_list, isA_str, okD_shr, ix0_2, ix1_2, ix0_3, ix1_3, ix2_3, ix0_1, decide_eq_true_eq, Bool.not_eq_true', Bool.not_eq_false', Bool.not_not, Bool.not_true, Bool.not_false, decide_eq_false_iff_not, List.cons.injEq, and_true, exists_and_left, exists_eq_left, exists_eq_right, D.int.injEq, if_true, if_false, Bool.false_eq_true, reduceCtorEq, ite_true, ite_false, D.tup.injEq, D.bl.injEq, D.str.injEq, Int.cast_ofNat_Int, Int.reduceEq, not_true_eq_false, not_false_eq_true, wipeD, List.foldr_cons, List.foldr_nil, add_tt, addll_iff, slt_iff, sll_iff, lstt_iff, lstl_iff, tupt_iff, tupl_iff, len_l, sizeLine_eq, Nat.reduceLeDiff]
    rw [fl1]
    exact ret_same noIntsT q
end LK

set_option Elab.async false
set_option maxRecDepth 100000
set_option linter.all false
/-! All trips from a place on, ascending; the one with a number. -/
namespace LK
open PySem L2 Lay RZ PyProof.Rows
def rf (a : Int) : Nat → List (Int × Int) → List Int
  | _, [] => []
  | n, q :: qs => if q.1 = a then (n : Int) :: rf a (n + 1) qs else rf a (n + 1) qs
theorem rf_idx {a : Int} : ∀ (qs : List (Int × Int)) (n : Nat), ((enumFrom n (qs.map pr)).filter (sel true a)).map enI = rf a n qs
  | [], _ => rfl
  | q :: qs, n => by
    have ih := rf_idx (a := a) qs (n + 1)
    show (((D.tup [.int n, pr q] :: enumFrom (n + 1) (qs.map pr)).filter (sel true a)).map enI) = if q.1 = a then (n : Int) :: rf a (n + 1) qs else rf a (n + 1) qs
    by_cases h : q.1 = a
    · rw [if_pos h, List.filter_cons_of_pos (show sel true a (.tup [.int n, pr q]) = true from decide_eq_true h), List.map_cons, ih]
      rfl
    · rw [if_neg h, List.filter_cons_of_neg (show ¬ sel true a (.tup [.int n, pr q]) = true from fun e => h (of_decide_eq_true e)), ih]
theorem idx_rf {a : Int} {ps : List (Int × Int)} : idx true a ps = rf a 0 ps := rf_idx ps 0
def hd (ps : List (Int × Int)) (r : Int) : Int := (ps.getD r.toNat (0, 0)).2
theorem rf_hd {a : Int} {ps : List (Int × Int)} : ∀ (qs : List (Int × Int)) (n : Nat), ps.drop n = qs → (rf a n qs).map (hd ps) = (outs qs a).map (·.2)
  | [], _, _ => rfl
  | q :: qs, n, h => by
    have hq : ps[n]? = some q := by have := congrArg (·[0]?) h; simpa using this
    have ih := rf_hd (a := a) (ps := ps) qs (n + 1) (by rw [← List.drop_drop, h]; rfl)
    unfold outs at ih ⊢
    unfold rf
    by_cases e : q.1 = a
    · rw [if_pos e, List.map_cons, ih, List.filter_cons_of_pos (p := fun p : Int × Int => decide (p.1 = a)) (decide_eq_true e), List.map_cons]
      congr 1
      unfold hd
      rw [List.getD_eq_getElem?_getD, Int.toNat_natCast, hq]; rfl
    · rw [if_neg e, ih, List.filter_cons_of_neg (p := fun p : Int × Int => decide (p.1 = a)) (fun z => e (of_decide_eq_true z))]
theorem rf_mem {a : Int} {ps : List (Int × Int)} : ∀ (qs : List (Int × Int)) (n : Nat), ps.drop n = qs → ∀ r, r ∈ rf a n qs ↔ (n : Int) ≤ r ∧ ∃ p, ps[r.toNat]? = some p ∧ p.1 = a
  | [], n, h, r => by
    constructor
    · intro z; cases z
    · rintro ⟨h0, p, hp, _⟩
      have := (List.getElem?_eq_some_iff.mp hp).1
      have hl := congrArg List.length h
      rw [List.length_drop] at hl
      simp at hl
      omega
  | q :: qs, n, h, r => by
    have hq : ps[n]? = some q := by have := congrArg (·[0]?) h; simpa using this
    have ih := rf_mem (a := a) (ps := ps) qs (n + 1) (by rw [← List.drop_drop, h]; rfl) r
    unfold rf
    by_cases e : q.1 = a
    · rw [if_pos e, List.mem_cons, ih]
      constructor
      · rintro (rfl | ⟨h1, p, h2, h3⟩)
        · exact ⟨Int.le_refl _, q, by rw [Int.toNat_natCast]; exact hq, e⟩
        · exact ⟨by omega, p, h2, h3⟩
      · rintro ⟨h1, p, h2, h3⟩
        by_cases z : r = (n : Int)
        · exact .inl z
        · exact .inr ⟨by omega, p, h2, h3⟩
    · rw [if_neg e, ih]
      constructor
      · rintro ⟨h1, p, h2, h3⟩
        exact ⟨by omega, p, h2, h3⟩
      · rintro ⟨h1, p, h2, h3⟩
        refine ⟨?_, p, h2, h3⟩
        by_cases z : r = (n : Int)
        · subst z
          rw [Int.toNat_natCast, hq] at h2
          cases h2
          exact absurd h3 e
        · omega
theorem rf_asc {a : Int} : ∀ (qs : List (Int × Int)) (n : Nat), (∀ r ∈ rf a n qs, (n : Int) ≤ r) ∧ (rf a n qs).Pairwise (· < ·)
  | [], _ => ⟨(fun _ h => nomatch h), List.Pairwise.nil⟩
  | q :: qs, n => by
    obtain ⟨h1, h2⟩ := rf_asc (a := a) qs (n + 1)
    unfold rf
    split
    · refine ⟨fun r hr => ?_, List.pairwise_cons.mpr ⟨fun r hr => ?_, h2⟩⟩
      · rcases List.mem_cons.mp hr with rfl | hr
        · exact Int.le_refl _
        · have := h1 r hr; omega
      · have := h1 r hr; omega
    · exact ⟨fun r hr => by have := h1 r hr; omega, h2⟩
def T (m : Int) (ps : List (Int × Int)) : Nat → Int → List (List Int)
  | 0, a => if a = m - 1 then [[]] else []
  | n + 1, a => if a = m - 1 then [[]] else (rf a 0 ps).flatMap fun r => (T m ps n (hd ps r)).map (r :: ·)
def Ts (m : Int) (ps : List (Int × Int)) (a : Int) : List (List Int) := T m ps m.toNat a
theorem rf_up {m : Int} {ps : List (Int × Int)} (u : Up m ps) {a r : Int} (h : r ∈ rf a 0 ps) : 0 ≤ r ∧ ∃ p, ps[r.toNat]? = some p ∧ p.1 = a ∧ hd ps r = p.2 ∧ 0 ≤ a ∧ a < p.2 ∧ p.2 < m := by
  obtain ⟨h0, p, hp, e⟩ := (rf_mem ps 0 rfl r).mp h
  have up := u p (List.mem_of_getElem? hp)
  refine ⟨by simpa using h0, p, hp, e, ?_, by omega, by omega, up.2.2⟩
  unfold hd
  rw [List.getD_eq_getElem?_getD, hp]; rfl
theorem T_stab {m : Int} {ps : List (Int × Int)} (u : Up m ps) : ∀ (n : Nat) (a : Int), a < m → m - 1 - a ≤ n → T m ps (n + 1) a = T m ps n a
  | 0, a, h1, h2 => by
    have : a = m - 1 := by omega
    simp only [T]
    rw [if_pos this, if_pos this]
  | n + 1, a, h1, h2 => by
    rw [T, T]
    split
    · rfl
    · rw [List.flatMap_def, List.flatMap_def]
      refine congrArg List.flatten (List.map_congr_left fun r hr => ?_)
      obtain ⟨_, p, hp, e, eh, a0, hlt, hm⟩ := rf_up u hr
      rw [T_stab u n (hd ps r) (by omega) (by omega)]
theorem Ts_end {m : Int} {ps : List (Int × Int)} : Ts m ps (m - 1) = [[]] := by
  unfold Ts
  cases m.toNat <;> simp [T]
theorem Ts_rec {m : Int} {ps : List (Int × Int)} (u : Up m ps) (m1 : 1 ≤ m) {a : Int} (h0 : 0 ≤ a) (h1 : a < m - 1) : Ts m ps a = (rf a 0 ps).flatMap fun r => (Ts m ps (hd ps r)).map (r :: ·) := by
  unfold Ts
  obtain ⟨k, hk⟩ : ∃ k, m.toNat = k + 1 := ⟨m.toNat - 1, by omega⟩
  rw [hk, T, if_neg (by omega), List.flatMap_def, List.flatMap_def]
  refine congrArg List.flatten (List.map_congr_left fun r hr => ?_)
  obtain ⟨_, p, hp, e, eh, a0, hlt, hm⟩ := rf_up u hr
  rw [T_stab u k (hd ps r) (by omega) (by omega)]
theorem len_nat {f : Int → List (List Int)} : ∀ (rs : List Int), ((rs.flatMap f).length : Int) = (rs.map fun r => ((f r).length : Int)).sum
  | [] => rfl
  | r :: rs => by rw [List.flatMap_cons, List.length_append, List.map_cons, List.sum_cons, ← len_nat rs]; omega
theorem T_len {m : Int} {ps : List (Int × Int)} : ∀ (n : Nat) (a : Int), ((T m ps n a).length : Int) = W m ps n a
  | 0, a => by unfold T W; split <;> rfl
  | n + 1, a => by
    unfold T W
    split
    · rfl
    · rw [len_nat]
      have := rf_hd (a := a) (ps := ps) ps 0 rfl
      have h2 := congrArg (fun l => (l.map fun b => W m ps n b).sum) this
      simp only [List.map_map] at h2
      unfold outs at h2
      rw [show ((ps.filter fun p => decide (p.1 = a)).map fun p => W m ps n p.2) = (ps.filter fun p => decide (p.1 = a)).map ((fun b => W m ps n b) ∘ fun p => p.2) from rfl, ← h2]
      refine congrArg List.sum (List.map_congr_left fun r hr => ?_)
      rw [List.length_map, T_len n]
      rfl
theorem Ts_len {m : Int} {ps : List (Int × Int)} {a : Int} : ((Ts m ps a).length : Int) = w m ps a := T_len _ _
theorem ltL_cc {a b : Int} {x y : List Int} (h : a < b) : ltL (a :: x) (b :: y) = true := by
  simp only [ltL]; rw [if_neg (by omega)]; exact decide_eq_true h
theorem ltL_c {a : Int} {x y : List Int} : ltL (a :: x) (a :: y) = ltL x y := by
  simp [ltL]
theorem T_asc {m : Int} {ps : List (Int × Int)} : ∀ (n : Nat) (a : Int), (T m ps n a).Pairwise fun x y => ltL x y = true
  | 0, a => by unfold T; split <;> simp
  | n + 1, a => by
    unfold T
    split
    · simp
    · rw [List.pairwise_flatMap]
      refine ⟨fun r hr => ?_, ((rf_asc ps 0).2).imp fun {r s} hrs x hx y hy => ?_⟩
      · rw [List.pairwise_map]
        exact (T_asc n (hd ps r)).imp fun h => by rw [ltL_c]; exact h
      · obtain ⟨x', _, rfl⟩ := List.mem_map.mp hx
        obtain ⟨y', _, rfl⟩ := List.mem_map.mp hy
        exact ltL_cc hrs
theorem ltL_anti : ∀ {x y : List Int}, ltL x y = false → ltL y x = false → x = y
  | [], [], _, _ => rfl
  | [], b :: y, h, _ => by simp [ltL] at h
  | a :: x, [], _, h => by simp [ltL] at h
  | a :: x, b :: y, h1, h2 => by
    simp only [ltL] at h1 h2
    by_cases e : a = b
    · subst e
      rw [if_pos rfl] at h1 h2
      rw [ltL_anti h1 h2]
    · rw [if_neg e] at h1
      rw [if_neg fun z => e z.symm] at h2
      have := of_decide_eq_false h1
      have := of_decide_eq_false h2
      omega
theorem Ts_sorted {m : Int} {ps : List (Int × Int)} {a : Int} {ts : List (List Int)} (hp : ts.Perm (Ts m ps a)) (hs : ts.Pairwise fun x y => ltL y x = false) : ts = Ts m ps a := by
  refine List.Perm.eq_of_pairwise (le := fun x y => ltL y x = false) (fun x y _ _ h1 h2 => ltL_anti h2 h1) hs ?_ hp
  exact (T_asc _ _).imp fun h => ltL_asym _ _ h
theorem Ts_mem {m : Int} {ps : List (Int × Int)} (u : Up m ps) (m1 : 1 ≤ m) : ∀ (k : Nat) {a : Int} {t : List Int}, 0 ≤ a → a < m → m - 1 - a ≤ k → (t ∈ Ts m ps a ↔ walk ps a t = some (m - 1))
  | 0, a, t, h0, h1, h2 => by
    have e : a = m - 1 := by omega
    subst e
    rw [Ts_end, List.mem_singleton]
    constructor
    · rintro rfl; rfl
    · intro h
      have := walk_up u h h0 h1
      exact List.eq_nil_of_length_eq_zero (by omega)
  | k + 1, a, t, h0, h1, h2 => by
    by_cases e : a = m - 1
    · subst e
      rw [Ts_end, List.mem_singleton]
      constructor
      · rintro rfl; rfl
      · intro h
        have := walk_up u h h0 h1
        exact List.eq_nil_of_length_eq_zero (by omega)
    rw [Ts_rec u m1 h0 (by omega), List.mem_flatMap]
    constructor
    · rintro ⟨r, hr, ht⟩
      obtain ⟨t', ht', rfl⟩ := List.mem_map.mp ht
      obtain ⟨r0, p, hp, ea, eh, a0, hlt, hm⟩ := rf_up u hr
      rw [eh] at ht'
      exact walk_mk r0 hp ea ((Ts_mem u m1 k (by omega) hm (by omega)).mp ht')
    · intro h
      cases t with
      | nil => cases h; exact absurd rfl e
      | cons r t' =>
        obtain ⟨r0, p, hp, ea, h'⟩ := walk_cons h
        have hr : r ∈ rf a 0 ps := (rf_mem ps 0 rfl r).mpr ⟨by simpa using r0, p, hp, ea⟩
        obtain ⟨_, p', hp', _, eh, a0, hlt, hm⟩ := rf_up u hr
        rw [hp] at hp'
        cases hp'
        refine ⟨r, hr, List.mem_map.mpr ⟨t', ?_, rfl⟩⟩
        rw [eh]
        exact (Ts_mem u m1 k (by omega) hm (by omega)).mpr h'
theorem Ts_walk {m : Int} {ps : List (Int × Int)} (u : Up m ps) {a : Int} {t : List Int} (h0 : 0 ≤ a) (h1 : a < m) : t ∈ Ts m ps a ↔ walk ps a t = some (m - 1) := Ts_mem u (by omega) (m - 1 - a).toNat h0 h1 (by omega)
/-- one step of counting down -/
theorem un_step {ps : List (Int × Int)} {m : Int} {rs : List Int} {r : Int} {l : Int} {x : List Int} {i : Nat} (hi : rs[i]? = some r) (l0 : 0 ≤ l)
    (h : ((rs.drop i).flatMap fun r => (Ts m ps (hd ps r)).map (r :: ·))[l.toNat]? = some x) :
    if w m ps (hd ps r) ≤ l then ((rs.drop (i + 1)).flatMap fun r => (Ts m ps (hd ps r)).map (r :: ·))[(l - w m ps (hd ps r)).toNat]? = some x
    else ∃ t, x = r :: t ∧ (Ts m ps (hd ps r))[l.toNat]? = some t := by
  have hlen := Ts_len (m := m) (ps := ps) (a := hd ps r)
  obtain ⟨hlt, hgi⟩ := List.getElem?_eq_some_iff.mp hi
  rw [List.drop_eq_getElem_cons hlt, hgi, List.flatMap_cons] at h
  split
  · rename_i hw
    rw [List.getElem?_append_right (by rw [List.length_map]; omega), List.length_map] at h
    rw [show (l - w m ps (hd ps r)).toNat = l.toNat - (Ts m ps (hd ps r)).length by omega]
    exact h
  · rename_i hw
    rw [List.getElem?_append_left (by rw [List.length_map]; omega), List.getElem?_map] at h
    obtain ⟨t, ht, rfl⟩ := Option.map_eq_some_iff.mp h
    exact ⟨t, rfl, ht⟩
end LK

set_option Elab.async false
set_option maxRecDepth 100000
set_option linter.all false
namespace LK
open PySem L2 Lay RZ PyProof.Rows
theorem pow13 : ∀ {n : Nat}, n ≤ 6 → 13 ^ n ≤ 4826809
  | 0, _ => by decide
  | 1, _ => by decide
  | 2, _ => by decide
  | 3, _ => by decide
  | 4, _ => by decide
  | 5, _ => by decide
  | 6, _ => by decide
theorem pow13' : ∀ {n : Nat}, n ≤ 5 → 13 ^ n ≤ 371293
  | 0, _ => by decide
  | 1, _ => by decide
  | 2, _ => by decide
  | 3, _ => by decide
  | 4, _ => by decide
  | 5, _ => by decide
def endOf (ps : List (Int × Int)) (t : List Int) : Int := (walk ps 0 t).getD 0
/-- all trips that begin by some ways -/
def G (m : Int) (ps : List (Int × Int)) (ts : List (List Int)) : List (List Int) := ts.flatMap fun t => (Ts m ps (endOf ps t)).map (t ++ ·)
theorem G_cons {m : Int} {ps : List (Int × Int)} {t : List Int} {ts : List (List Int)} : G m ps (t :: ts) = (Ts m ps (endOf ps t)).map (t ++ ·) ++ G m ps ts := by
  unfold G; rw [List.flatMap_cons]
theorem G_app {m : Int} {ps : List (Int × Int)} {ts us : List (List Int)} : G m ps (ts ++ us) = G m ps ts ++ G m ps us := by
  unfold G; rw [List.flatMap_append]
theorem G_take {gs a b T : List (List Int)} {t : List Int} (h : (gs ++ (a ++ (List.map (t ++ ·) [[]] ++ b))).Perm T) : ((gs ++ [t]) ++ (a ++ b)).Perm T := by
  refine List.Perm.trans ?_ h
  rw [List.append_assoc]
  refine List.Perm.append_left gs ?_
  rw [List.map_singleton, List.append_nil]
  exact (List.perm_middle (l₁ := a) (l₂ := b) (a := t)).symm
theorem G_more {m : Int} {ps : List (Int × Int)} {gs ls es x b T : List (List Int)} (h : (gs ++ (G m ps ls ++ (x ++ b))).Perm T) (e : G m ps es = x) : (gs ++ (G m ps (ls ++ es) ++ b)).Perm T := by
  rw [G_app, e, List.append_assoc]; exact h
theorem onF_rf {b : Int} {t : List Int} {ps : List (Int × Int)} : ((enumFrom 0 (ps.map pr)).filter (sel true b)).map (onF t) = (rf b 0 ps).map fun r => tupI (t ++ [r]) := by
  rw [← rf_idx, List.map_map]
  refine List.map_congr_left fun x hx => ?_
  obtain ⟨i, hi⟩ := List.mem_iff_getElem?.mp (List.mem_filter.mp hx).1
  obtain ⟨d, hd, rfl⟩ := enum_at hi
  show D.tup _ = D.tup ((t ++ [_]).map D.int)
  rw [List.map_append]; rfl
def sp_trips : SD := fun ds M _ Q => ∃ m ps, ds = [netD m ps] ∧ 2 ≤ m ∧ m ≤ 7 ∧ ps.length ≤ 13 ∧ Up m ps ∧ Q (.fr (.lst ((Ts m ps 0).map tupI))) M
theorem w_law_trips (Γ : Gam) (gm : GMono Γ) (ds : List D) (M : Mem) (X : XP) (Q : Kd) (hl : ds.length = sig_law_trips.ps.length) (h : sp_trips ds M X Q) : wss Γ ir_law_trips (bodyPo M X Q) (startD cc_law_trips.N ds) M := by
  obtain ⟨m, ps, rfl, m2, m6, pl, up, q⟩ := h
  unfold ir_law_trips cc_law_trips
  have hsz : sizeLine = 16777216 := sizeLine_eq
  refine asg_cut gm (R := fun d M1 => d = netD m ps ∧ M1 = M) ⟨_, rfl, rfl, rfl⟩ ?_
  rintro d M1 ⟨rfl, rfl⟩
  refine ⟨_, rfl, _, _, rfl, _, _, rfl, rfl, ?_⟩
  show wss Γ (.cons _ _) _ [some (netD m ps), some (.int m), some (.tup (ps.map pr)), none, none, none, none, none, none, none] _
  refine asg_cut gm (R := fun d M2 => d = .tup [.lst (([[]] : List (List Int)).map tupI), .loc M1.length] ∧ M2 = M1 ++ [.lst (([] : List (List Int)).map tupI)]) ?_ ?_
  · simp only [wss, ws, wp.eq_1, wp.eq_2, wp.eq_3, wp.eq_4, wp.eq_5, wp.eq_6, wp.eq_7, wp.eq_8, wp.eq_9, wp.eq_10, wp.eq_11, wp.eq_12, wp.eq_13, wp.eq_14, wp.eq_15, wp.eq_16, wp.eq_17, wp.eq_18, wp.eq_19, wp.eq_20, wp.eq_22, wp.eq_23, wp.eq_24, wp.eq_25, wps, wpO, wpK, wpP, wpC, wpI, wpTg.eq_1, tg_tup, tg_fl, tg_cons, tg_nil, bodyPo, startD, shr_non, shr_bl, shr_int, shr_str, shr_ty, shr_tup, shr_lst, shr_fz, shr_dct, shr_loc, shr_fr, truth_bl, true_and, add_ii, sub_ii, mul_ii, fdiv_ii, mod_ii, pow_ii, lt_ii, le_ii, gt_ii, ge_ii, len_t, abs_i, int_i, int_b, Es.len, List.map_cons, List.map_nil, List.length_cons, List.length_nil, List.cons_append, List.nil_append, List.replicate_succ, List.replicate_zero, List.getElem?_cons_zero, List.getElem?_cons_succ, List.set_cons_zero, List.set_cons_succ, Option.some.injEq, exists_eq_left', Nat.zero_add, Nat.reduceAdd, Nat.reduceSub, eq_iff, ne_iff, ess_iff, nss_iff, max_iff, min_iff, isA_int, isA_bool, isA_tuple, isA_list, isA_str, okD_shr, ix0_2, ix1_2, ix0_3, ix1_3, ix2_3, ix0_1, decide_eq_true_eq, Bool.not_eq_true', Bool.not_eq_false', Bool.not_not, Bool.not_true, Bool.not_false, decide_eq_false_iff_not, List.cons.injEq, and_true, exists_and_left, exists_eq_left, exists_eq_right, D.int.injEq, if_true, if_false, Bool.false_eq_true, reduceCtorEq, ite_true, ite_false, D.tup.injEq, D.bl.injEq, D.str.injEq, Int.cast_ofNat_Int, Int.reduceEq, not_true_eq_false, not_false_eq_true, wipeD, List.foldr_cons, List.foldr_nil, add_tt, addll_iff, slt_iff, sll_iff, lstt_iff, lstl_iff, tupt_iff, tupl_iff, len_l, sizeLine_eq, Nat.reduceLeDiff]
    exact .inl ⟨[], rfl, rfl, rfl⟩
  rintro d M2 ⟨rfl, rfl⟩
  refine ⟨_, rfl, _, _, rfl, _, _, rfl, rfl, ?_⟩
  show wss Γ (.cons _ _) _ [some (netD m ps), some (.int m), some (.tup (ps.map pr)), some (.lst (([[]] : List (List Int)).map tupI)), some (.loc M1.length), none, none, none, none, none] _
  refine whl_cut gm (fun k σ M' => ∃ (ℓ : Nat) (vs fs : List (List Int)) (c5 c6 c7 c8 c9 : Option D), k = 7 - ℓ ∧ ℓ ≤ 7 ∧ M' = M1 ++ [.lst (fs.map tupI)] ∧ (∀ t ∈ vs, t.length = ℓ ∧ ∃ b, walk ps 0 t = some b) ∧ vs.length ≤ 13 ^ ℓ ∧ (∀ t ∈ fs, t ≠ []) ∧ fs.length ≤ 13 ^ ℓ ∧ (fs ++ G m ps vs).Perm (Ts m ps 0) ∧
    σ = [some (netD m ps), some (.int m), some (.tup (ps.map pr)), some (.lst (vs.map tupI)), some (.loc M1.length), c5, c6, c7, c8, c9]) ⟨7, 0, [[]], [], _, _, _, _, _, rfl, by omega, rfl, fun t ht => ?_, by decide, (fun _ h => nomatch h), by decide, by simp [G, endOf, walk], rfl⟩ ?_
  · rw [List.mem_singleton.mp ht]
    exact ⟨rfl, 0, rfl⟩
  rintro k σ M' ⟨ℓ, vs, fs, c5, c6, c7, c8, c9, rfl, hℓ, rfl, hvs, hwl, hfs, hfl, hS, rfl⟩
  refine ⟨!vs.isEmpty, ?_, ?_⟩
  · simp only [wss, ws, wp.eq_1, wp.eq_2, wp.eq_3, wp.eq_4, wp.eq_5, wp.eq_6, wp.eq_7, wp.eq_8, wp.eq_9, wp.eq_10, wp.eq_11, wp.eq_12, wp.eq_13, wp.eq_14, wp.eq_15, wp.eq_16, wp.eq_17, wp.eq_18, wp.eq_19, wp.eq_20, wp.eq_22, wp.eq_23, wp.eq_24, wp.eq_25, wps, wpO, wpK, wpP, wpC, wpI, wpTg.eq_1, tg_tup, tg_fl, tg_cons, tg_nil, bodyPo, startD, shr_non, shr_bl, shr_int, shr_str, shr_ty, shr_tup, shr_lst, shr_fz, shr_dct, shr_loc, shr_fr, truth_bl, true_and, add_ii, sub_ii, mul_ii, fdiv_ii, mod_ii, pow_ii, lt_ii, le_ii, gt_ii, ge_ii, len_t, abs_i, int_i, int_b, Es.len, List.map_cons, List.map_nil, List.length_cons, List.length_nil, List.cons_append, List.nil_append, List.replicate_succ, List.replicate_zero, List.getElem?_cons_zero, List.getElem?_cons_succ, List.set_cons_zero, List.set_cons_succ, Option.some.injEq, exists_eq_left', Nat.zero_add, Nat.reduceAdd, Nat.reduceSub, eq_iff, ne_iff, ess_iff, nss_iff, max_iff, min_iff, isA_int, isA_bool, isA_tuple, isA_list, isA_str, okD_shr, ix0_2, ix1_2, ix0_3, ix1_3, ix2_3, ix0_1, decide_eq_true_eq, Bool.not_eq_true', Bool.not_eq_false', Bool.not_not, Bool.not_true, Bool.not_false, decide_eq_false_iff_not, List.cons.injEq, and_true, exists_and_left, exists_eq_left, exists_eq_right, D.int.injEq, if_true, if_false, Bool.false_eq_true, reduceCtorEq, ite_true, ite_false, D.tup.injEq, D.bl.injEq, D.str.injEq, Int.cast_ofNat_Int, Int.reduceEq, not_true_eq_false, not_false_eq_true, wipeD, List.foldr_cons, List.foldr_nil]
    exact ⟨Nat.zero_le _, ne_lnil rfl⟩
  split
  · rename_i hne
    obtain ⟨t0, ht0⟩ : ∃ t, t ∈ vs := by
      cases vs with
      | nil => cases hne
      | cons t _ => exact ⟨t, List.mem_cons_self⟩
    have hl5 : ℓ ≤ 6 := by
      obtain ⟨h1, b, h2⟩ := hvs t0 ht0
      have := walk_up up h2 (by omega) (by omega)
      omega
    have hp5 := pow13 hl5
    refine asg_cut gm (R := fun d M2 => d = .fr (.lst (([] : List (List Int)).map tupI)) ∧ M2 = M1 ++ [.lst (fs.map tupI)]) ?_ ?_
    · simp only [wss, ws, wp.eq_1, wp.eq_2, wp.eq_3, wp.eq_4, wp.eq_5, wp.eq_6, wp.eq_7, wp.eq_8, wp.eq_9, wp.eq_10, wp.eq_11, wp.eq_12, wp.eq_13, wp.eq_14, wp.eq_15, wp.eq_16, wp.eq_17, wp.eq_18, wp.eq_19, wp.eq_20, wp.eq_22, wp.eq_23, wp.eq_24, wp.eq_25, wps, wpO, wpK, wpP, wpC, wpI, wpTg.eq_1, tg_tup, tg_fl, tg_cons, tg_nil, bodyPo, startD, shr_non, shr_bl, shr_int, shr_str, shr_ty, shr_tup, shr_lst, shr_fz, shr_dct, shr_loc, shr_fr, truth_bl, true_and, add_ii, sub_ii, mul_ii, fdiv_ii, mod_ii, pow_ii, lt_ii, le_ii, gt_ii, ge_ii, len_t, abs_i, int_i, int_b, Es.len, List.map_cons, List.map_nil, List.length_cons, List.length_nil, List.cons_append, List.nil_append, List.replicate_succ, List.replicate_zero, List.getElem?_cons_zero, List.getElem?_cons_succ, List.set_cons_zero, List.set_cons_succ, Option.some.injEq, exists_eq_left', Nat.zero_add, Nat.reduceAdd, Nat.reduceSub, eq_iff, ne_iff, ess_iff, nss_iff, max_iff, min_iff, isA_int, isA_bool, isA_tuple, isA_list, isA_str, okD_shr, ix0_2, ix1_2, ix0_3, ix1_3, ix2_3, ix0_1, decide_eq_true_eq, Bool.not_eq_true', Bool.not_eq_false', Bool.not_not, Bool.not_true, Bool.not_false, decide_eq_false_iff_not, List.cons.injEq, and_true, exists_and_left, exists_eq_left, exists_eq_right, D.int.injEq, if_true, if_false, Bool.false_eq_true, reduceCtorEq, ite_true, ite_false, D.tup.injEq, D.bl.injEq, D.str.injEq, Int.cast_ofNat_Int, Int.reduceEq, not_true_eq_false, not_false_eq_true, wipeD, List.foldr_cons, List.foldr_nil, add_tt, addll_iff, slt_iff, sll_iff, lstt_iff, lstl_iff, tupt_iff, tupl_iff, len_l, sizeLine_eq, Nat.reduceLeDiff]
      done
    rintro d M2 ⟨rfl, rfl⟩
    show wss Γ (.cons _ _) _ [some (netD m ps), some (.int m), some (.tup (ps.map pr)), some (.lst (vs.map tupI)), some (.loc M1.length), some (.lst (([] : List (List Int)).map tupI)), c6, c7, c8, c9] _
    refine for_cut gm (M1 := M1 ++ [.lst (fs.map tupI)]) (vs.map tupI) [] ?_ (fun i σ M' => ∃ (ls gs : List (List Int)) (c6 c7 c8 c9 : Option D), i ≤ vs.length ∧ M' = M1 ++ [.lst (gs.map tupI)] ∧ (∀ t ∈ ls, t.length = ℓ + 1 ∧ ∃ b, walk ps 0 t = some b) ∧ ls.length ≤ i * 13 ∧ (∀ t ∈ gs, t ≠ []) ∧ gs.length ≤ 13 ^ ℓ + i ∧ (gs ++ (G m ps ls ++ G m ps (vs.drop i))).Perm (Ts m ps 0) ∧
      σ = [some (netD m ps), some (.int m), some (.tup (ps.map pr)), some (.lst (vs.map tupI)), some (.loc M1.length), some (.lst (ls.map tupI)), c6, c7, c8, c9]) ⟨[], fs, _, _, _, _, Nat.zero_le _, rfl, (fun _ h => nomatch h), Nat.zero_le _, hfs, hfl, by simpa [G] using hS, rfl⟩ (fun _ _ _ _ g hg => nomatch hg) ?_ ?_
    · simp only [wss, ws, wp.eq_1, wp.eq_2, wp.eq_3, wp.eq_4, wp.eq_5, wp.eq_6, wp.eq_7, wp.eq_8, wp.eq_9, wp.eq_10, wp.eq_11, wp.eq_12, wp.eq_13, wp.eq_14, wp.eq_15, wp.eq_16, wp.eq_17, wp.eq_18, wp.eq_19, wp.eq_20, wp.eq_22, wp.eq_23, wp.eq_24, wp.eq_25, wps, wpO, wpK, wpP, wpC, wpI, wpTg.eq_1, tg_tup, tg_fl, tg_cons, tg_nil, bodyPo, startD, shr_non, shr_bl, shr_int, shr_str, shr_ty, shr_tup, shr_lst, shr_fz, shr_dct, shr_loc, shr_fr, truth_bl, true_and, add_ii, sub_ii, mul_ii, fdiv_ii, mod_ii, pow_ii, lt_ii, le_ii, gt_ii, ge_ii, len_t, abs_i, int_i, int_b, Es.len, List.map_cons, List.map_nil, List.length_cons, List.length_nil, List.cons_append, List.nil_append, List.replicate_succ, List.replicate_zero, List.getElem?_cons_zero, List.getElem?_cons_succ, List.set_cons_zero, List.set_cons_succ, Option.some.injEq, exists_eq_left', Nat.zero_add, Nat.reduceAdd, Nat.reduceSub, eq_iff, ne_iff, ess_iff, nss_iff, max_iff, min_iff, isA_int, isA_bool, isA_tuple, isA_list, isA_str, okD_shr, ix0_2, ix1_2, ix0_3, ix1_3, ix2_3, ix0_1, decide_eq_true_eq, Bool.not_eq_true', Bool.not_eq_false', Bool.not_not, Bool.not_true, Bool.not_false, decide_eq_false_iff_not, List.cons.injEq, and_true, exists_and_left, exists_eq_left, exists_eq_right, D.int.injEq, if_true, if_false, Bool.false_eq_true, reduceCtorEq, ite_true, ite_false, D.tup.injEq, D.bl.injEq, D.str.injEq, Int.cast_ofNat_Int, Int.reduceEq, not_true_eq_false, not_false_eq_true, wipeD, List.foldr_cons, List.foldr_nil]
      exact it_l (by simp)
    · rintro σ M' ⟨ls, gs, c6, c7, c8, c9, _, rfl, h1, h2, h3, h4, h5, rfl⟩
      rw [List.length_map] at h2 h4 h5
      rw [List.drop_length] at h5
      refine asg_cut gm (R := fun d M2 => d = .lst (ls.map tupI) ∧ M2 = M1 ++ [.lst (gs.map tupI)]) ?_ ?_
      · simp only [wss, ws, wp.eq_1, wp.eq_2, wp.eq_3, wp.eq_4, wp.eq_5, wp.eq_6, wp.eq_7, wp.eq_8, wp.eq_9, wp.eq_10, wp.eq_11, wp.eq_12, wp.eq_13, wp.eq_14, wp.eq_15, wp.eq_16, wp.eq_17, wp.eq_18, wp.eq_19, wp.eq_20, wp.eq_22, wp.eq_23, wp.eq_24, wp.eq_25, wps, wpO, wpK, wpP, wpC, wpI, wpTg.eq_1, tg_tup, tg_fl, tg_cons, tg_nil, bodyPo, startD, shr_non, shr_bl, shr_int, shr_str, shr_ty, shr_tup, shr_lst, shr_fz, shr_dct, shr_loc, shr_fr, truth_bl, true_and, add_ii, sub_ii, mul_ii, fdiv_ii, mod_ii, pow_ii, lt_ii, le_ii, gt_ii, ge_ii, len_t, abs_i, int_i, int_b, Es.len, List.map_cons, List.map_nil, List.length_cons, List.length_nil, List.cons_append, List.nil_append, List.replicate_succ, List.replicate_zero, List.getElem?_cons_zero, List.getElem?_cons_succ, List.set_cons_zero, List.set_cons_succ, Option.some.injEq, exists_eq_left', Nat.zero_add, Nat.reduceAdd, Nat.reduceSub, eq_iff, ne_iff, ess_iff, nss_iff, max_iff, min_iff, isA_int, isA_bool, isA_tuple, isA_list, isA_str, okD_shr, ix0_2, ix1_2, ix0_3, ix1_3, ix2_3, ix0_1, decide_eq_true_eq, Bool.not_eq_true', Bool.not_eq_false', Bool.not_not, Bool.not_true, Bool.not_false, decide_eq_false_iff_not, List.cons.injEq, and_true, exists_and_left, exists_eq_left, exists_eq_right, D.int.injEq, if_true, if_false, Bool.false_eq_true, reduceCtorEq, ite_true, ite_false, D.tup.injEq, D.bl.injEq, D.str.injEq, Int.cast_ofNat_Int, Int.reduceEq, not_true_eq_false, not_false_eq_true, wipeD, List.foldr_cons, List.foldr_nil]
      rintro d M2 ⟨rfl, rfl⟩
      refine ⟨7 - (ℓ + 1), by omega, ℓ + 1, ls, gs, _, _, _, _, _, rfl, by omega, rfl, h1, ?_, h3, ?_, by simpa [G] using h5, rfl⟩
      · rw [Nat.pow_succ]
        omega
      · rw [Nat.pow_succ]
        omega
    · rintro i x σ M' hx ⟨ls, gs, c6, c7, c8, c9, hi, rfl, h1, h2, h3, h4, h5, rfl⟩
      rw [List.getElem?_map] at hx
      obtain ⟨t, ht, rfl⟩ := Option.map_eq_some_iff.mp hx
      obtain ⟨tl, b, hb⟩ := hvs t (List.mem_of_getElem? ht)
      have hil := (List.getElem?_eq_some_iff.mp ht).1
      have hbu := walk_up up hb (by omega) (by omega)
      have he : endOf ps t = b := by unfold endOf; rw [hb]; rfl
      rw [drop_at ht, G_cons, he] at h5
      show wss Γ (.cons _ _) _ [some (netD m ps), some (.int m), some (.tup (ps.map pr)), some (.lst (vs.map tupI)), some (.loc M1.length), some (.lst (ls.map tupI)), some (tupI t), c7, c8, c9] _
      refine asg_cut gm (R := fun d M2 => d = .int b ∧ M2 = M1 ++ [.lst (gs.map tupI)]) ?_ ?_
      · unfold tupI
        simp only [wss, ws, wp.eq_1, wp.eq_2, wp.eq_3, wp.eq_4, wp.eq_5, wp.eq_6, wp.eq_7, wp.eq_8, wp.eq_9, wp.eq_10, wp.eq_11, wp.eq_12, wp.eq_13, wp.eq_14, wp.eq_15, wp.eq_16, wp.eq_17, wp.eq_18, wp.eq_19, wp.eq_20, wp.eq_22, wp.eq_23, wp.eq_24, wp.eq_25, wps, wpO, wpK, wpP, wpC, wpI, wpTg.eq_1, tg_tup, tg_fl, tg_cons, tg_nil, bodyPo, startD, shr_non, shr_bl, shr_int, shr_str, shr_ty, shr_tup, shr_lst, shr_fz, shr_dct, shr_loc, shr_fr, truth_bl, true_and, add_ii, sub_ii, mul_ii, fdiv_ii, mod_ii, pow_ii, lt_ii, le_ii, gt_ii, ge_ii, len_t, abs_i, int_i, int_b, Es.len, List.map_cons, List.map_nil, List.length_cons, List.length_nil, List.cons_append, List.nil_append, List.replicate_succ, List.replicate_zero, List.getElem?_cons_zero, List.getElem?_cons_succ, List.set_cons_zero, List.set_cons_succ, Option.some.injEq, exists_eq_left', Nat.zero_add, Nat.reduceAdd, Nat.reduceSub, eq_iff, ne_iff, ess_iff, nss_iff, max_iff, min_iff, isA_int, isA_bool, isA_tuple, isA_list, isA_str, okD_shr, ix0_2, ix1_2, ix0_3, ix1_3, ix2_3, ix0_1, decide_eq_true_eq, Bool.not_eq_true', Bool.not_eq_false', Bool.not_not, Bool.not_true, Bool.not_false, decide_eq_false_iff_not, List.cons.injEq, and_true, exists_and_left, exists_eq_left, exists_eq_right, D.int.injEq, if_true, if_false, Bool.false_eq_true, reduceCtorEq, ite_true, ite_false, D.tup.injEq, D.bl.injEq, D.str.injEq, Int.cast_ofNat_Int, Int.reduceEq, not_true_eq_false, not_false_eq_true, wipeD, List.foldr_cons, List.foldr_nil]
        refine ⟨Nat.zero_le _, eq_tnil ?_⟩
        cases ht0 : t with
        | nil =>
          subst ht0
          cases hb
          exact rfl
        | cons r0 t1 =>
          rw [← ht0]
          have hne : t ≠ [] := by rw [ht0]; simp
          rw [if_neg (by rw [ht0]; simp)]
          have hd := List.dropLast_concat_getLast hne
          rw [← hd] at hb
          obtain ⟨r1, p, hp, e⟩ := walk_last hb
          refine (ix_iff (y := .int (t.getLast hne)) ?_).mpr ?_
          · refine (atI_last (xs := t.map D.int) (by simpa using hne)).trans ?_
            rw [List.getElem?_map, List.length_map]
            rw [← List.getLast?_eq_getElem?, List.getLast?_eq_some_getLast hne]
            rfl
          · simp only [wss, ws, wp.eq_1, wp.eq_2, wp.eq_3, wp.eq_4, wp.eq_5, wp.eq_6, wp.eq_7, wp.eq_8, wp.eq_9, wp.eq_10, wp.eq_11, wp.eq_12, wp.eq_13, wp.eq_14, wp.eq_15, wp.eq_16, wp.eq_17, wp.eq_18, wp.eq_19, wp.eq_20, wp.eq_22, wp.eq_23, wp.eq_24, wp.eq_25, wps, wpO, wpK, wpP, wpC, wpI, wpTg.eq_1, tg_tup, tg_fl, tg_cons, tg_nil, bodyPo, startD, shr_non, shr_bl, shr_int, shr_str, shr_ty, shr_tup, shr_lst, shr_fz, shr_dct, shr_loc, shr_fr, truth_bl, true_and, add_ii, sub_ii, mul_ii, fdiv_ii, mod_ii, pow_ii, lt_ii, le_ii, gt_ii, ge_ii, len_t, abs_i, int_i, int_b, Es.len, List.map_cons, List.map_nil, List.length_cons, List.length_nil, List.cons_append, List.nil_append, List.replicate_succ, List.replicate_zero, List.getElem?_cons_zero, List.getElem?_cons_succ, List.set_cons_zero, List.set_cons_succ, Option.some.injEq, exists_eq_left', Nat.zero_add, Nat.reduceAdd, Nat.reduceSub, eq_iff, ne_iff, ess_iff, nss_iff, max_iff, min_iff, isA_int, isA_bool, isA_tuple, isA_list, isA_str, okD_shr, ix0_2, ix1_2, ix0_3, ix1_3, ix2_3, ix0_1, decide_eq_true_eq, Bool.not_eq_true', Bool.not_eq_false', Bool.not_not, Bool.not_true, Bool.not_false, decide_eq_false_iff_not, List.cons.injEq, and_true, exists_and_left, exists_eq_left, exists_eq_right, D.int.injEq, if_true, if_false, Bool.false_eq_true, reduceCtorEq, ite_true, ite_false, D.tup.injEq, D.bl.injEq, D.str.injEq, Int.cast_ofNat_Int, Int.reduceEq, not_true_eq_false, not_false_eq_true, wipeD, List.foldr_cons, List.foldr_nil, ix_ps r1 hp (by omega)]
            exact e
      rintro d M2 ⟨rfl, rfl⟩
      show wss Γ (.cons _ _) _ [some (netD m ps), some (.int m), some (.tup (ps.map pr)), some (.lst (vs.map tupI)), some (.loc M1.length), some (.lst (ls.map tupI)), some (tupI t), some (.int b), c8, c9] _
      refine ite_cut gm (b := decide (b = m - 1)) ?_ ?_
      · simp only [wss, ws, wp.eq_1, wp.eq_2, wp.eq_3, wp.eq_4, wp.eq_5, wp.eq_6, wp.eq_7, wp.eq_8, wp.eq_9, wp.eq_10, wp.eq_11, wp.eq_12, wp.eq_13, wp.eq_14, wp.eq_15, wp.eq_16, wp.eq_17, wp.eq_18, wp.eq_19, wp.eq_20, wp.eq_22, wp.eq_23, wp.eq_24, wp.eq_25, wps, wpO, wpK, wpP, wpC, wpI, wpTg.eq_1, tg_tup, tg_fl, tg_cons, tg_nil, bodyPo, startD, shr_non, shr_bl, shr_int, shr_str, shr_ty, shr_tup, shr_lst, shr_fz, shr_dct, shr_loc, shr_fr, truth_bl, true_and, add_ii, sub_ii, mul_ii, fdiv_ii, mod_ii, pow_ii, lt_ii, le_ii, gt_ii, ge_ii, len_t, abs_i, int_i, int_b, Es.len, List.map_cons, List.map_nil, List.length_cons, List.length_nil, List.cons_append, List.nil_append, List.replicate_succ, List.replicate_zero, List.getElem?_cons_zero, List.getElem?_cons_succ, List.set_cons_zero, List.set_cons_succ, Option.some.injEq, exists_eq_left', Nat.zero_add, Nat.reduceAdd, Nat.reduceSub, eq_iff, ne_iff, ess_iff, nss_iff, max_iff, min_iff, isA_int, isA_bool, isA_tuple, isA_list, isA_str, okD_shr, ix0_2, ix1_2, ix0_3, ix1_3, ix2_3, ix0_1, decide_eq_true_eq, Bool.not_eq_true', Bool.not_eq_false', Bool.not_not, Bool.not_true, Bool.not_false, decide_eq_false_iff_not, List.cons.injEq, and_true, exists_and_left, exists_eq_left, exists_eq_right, D.int.injEq, if_true, if_false, Bool.false_eq_true, reduceCtorEq, ite_true, ite_false, D.tup.injEq, D.bl.injEq, D.str.injEq, Int.cast_ofNat_Int, Int.reduceEq, not_true_eq_false, not_false_eq_true, wipeD, List.foldr_cons, List.foldr_nil]
      split
      · rename_i hbm
        have hbm := of_decide_eq_true hbm
        have ht1 : t ≠ [] := by
          intro e
          rw [e] at hb
          cases hb
          omega
        rw [hbm, Ts_end] at h5
        refine ex_cut gm (R := fun _ M2 => M2 = M1 ++ [.lst ((gs ++ [t]).map tupI)]) ?_ ?_
        · simp only [wss, ws, wp.eq_1, wp.eq_2, wp.eq_3, wp.eq_4, wp.eq_5, wp.eq_6, wp.eq_7, wp.eq_8, wp.eq_9, wp.eq_10, wp.eq_11, wp.eq_12, wp.eq_13, wp.eq_14, wp.eq_15, wp.eq_16, wp.eq_17, wp.eq_18, wp.eq_19, wp.eq_20, wp.eq_22, wp.eq_23, wp.eq_24, wp.eq_25, wps, wpO, wpK, wpP, wpC, wpI, wpTg.eq_1, tg_tup, tg_fl, tg_cons, tg_nil, bodyPo, startD, shr_non, shr_bl, shr_int, shr_str, shr_ty, shr_tup, shr_lst, shr_fz, shr_dct, shr_loc, shr_fr, truth_bl, true_and, add_ii, sub_ii, mul_ii, fdiv_ii, mod_ii, pow_ii, lt_ii, le_ii, gt_ii, ge_ii, len_t, abs_i, int_i, int_b, Es.len, List.map_cons, List.map_nil, List.length_cons, List.length_nil, List.cons_append, List.nil_append, List.replicate_succ, List.replicate_zero, List.getElem?_cons_zero, List.getElem?_cons_succ, List.set_cons_zero, List.set_cons_succ, Option.some.injEq, exists_eq_left', Nat.zero_add, Nat.reduceAdd, Nat.reduceSub, eq_iff, ne_iff, ess_iff, nss_iff, max_iff, min_iff, isA_int, isA_bool, isA_tuple, isA_list, isA_str, okD_shr, ix0_2, ix1_2, ix0_3, ix1_3, ix2_3, ix0_1, decide_eq_true_eq, Bool.not_eq_true', Bool.not_eq_false', Bool.not_not, Bool.not_true, Bool.not_false, decide_eq_false_iff_not, List.cons.injEq, and_true, exists_and_left, exists_eq_left, exists_eq_right, D.int.injEq, if_true, if_false, Bool.false_eq_true, reduceCtorEq, ite_true, ite_false, D.tup.injEq, D.bl.injEq, D.str.injEq, Int.cast_ofNat_Int, Int.reduceEq, not_true_eq_false, not_false_eq_true, wipeD, List.foldr_cons, List.foldr_nil]
          refine ⟨⟨_, rfl, _, atM⟩, ?_⟩
          show opM .append _ [tupI t] _ _
          refine app_of atM (by rw [List.length_map]; omega) ?_
          rw [setM]
          simp
        · rintro d M2 rfl
          refine ⟨ls, gs ++ [t], _, _, _, _, hil, rfl, h1, by omega, fun t' ht' => ?_, by rw [List.length_append]; simp; omega, G_take h5, rfl⟩
          rcases List.mem_append.mp ht' with h | h
          · exact h3 t' h
          · rw [List.mem_singleton.mp h]; exact ht1
      · rename_i hbm
        have hbm : ¬ b = m - 1 := fun e => hbm (decide_eq_true e)
        have hp6 := pow13' (n := ℓ) (by omega)
        refine asg_cut gm (R := fun d M2 => M2 = M1 ++ [.lst (gs.map tupI)] ∧ ∃ es : List (List Int), d = .fr (.lst ((ls ++ es).map tupI)) ∧ es.length ≤ 13 ∧ G m ps es = (Ts m ps b).map (t ++ ·) ∧ ∀ e ∈ es, e.length = ℓ + 1 ∧ ∃ b, walk ps 0 e = some b) ?_ ?_
        · simp only [wss, ws, wp.eq_1, wp.eq_2, wp.eq_3, wp.eq_4, wp.eq_5, wp.eq_6, wp.eq_7, wp.eq_8, wp.eq_9, wp.eq_10, wp.eq_11, wp.eq_12, wp.eq_13, wp.eq_14, wp.eq_15, wp.eq_16, wp.eq_17, wp.eq_18, wp.eq_19, wp.eq_20, wp.eq_22, wp.eq_23, wp.eq_24, wp.eq_25, wps, wpO, wpK, wpP, wpC, wpI, wpTg.eq_1, tg_tup, tg_fl, tg_cons, tg_nil, bodyPo, startD, shr_non, shr_bl, shr_int, shr_str, shr_ty, shr_tup, shr_lst, shr_fz, shr_dct, shr_loc, shr_fr, truth_bl, true_and, add_ii, sub_ii, mul_ii, fdiv_ii, mod_ii, pow_ii, lt_ii, le_ii, gt_ii, ge_ii, len_t, abs_i, int_i, int_b, Es.len, List.map_cons, List.map_nil, List.length_cons, List.length_nil, List.cons_append, List.nil_append, List.replicate_succ, List.replicate_zero, List.getElem?_cons_zero, List.getElem?_cons_succ, List.set_cons_zero, List.set_cons_succ, Option.some.injEq, exists_eq_left', Nat.zero_add, Nat.reduceAdd, Nat.reduceSub, eq_iff, ne_iff, ess_iff, nss_iff, max_iff, min_iff, isA_int, isA_bool, isA_tuple, isA_list, isA_str, okD_shr, ix0_2, ix1_2, ix0_3, ix1_3, ix2_3, ix0_1, decide_eq_true_eq, Bool.not_eq_true', Bool.not_eq_false', Bool.not_not, Bool.not_true, Bool.not_false, decide_eq_false_iff_not, List.cons.injEq, and_true, exists_and_left, exists_eq_left, exists_eq_right, D.int.injEq, if_true, if_false, Bool.false_eq_true, reduceCtorEq, ite_true, ite_false, D.tup.injEq, D.bl.injEq, D.str.injEq, Int.cast_ofNat_Int, Int.reduceEq, not_true_eq_false, not_false_eq_true, wipeD, List.foldr_cons, List.foldr_nil, add_tt, addll_iff, slt_iff, sll_iff, lstt_iff, lstl_iff, tupt_iff, tupl_iff, len_l, sizeLine_eq, Nat.reduceLeDiff]
          refine lc_cut gm (xs := enumFrom 0 (ps.map pr)) (gd := []) (sel true b) (onF t) ?_ (fun g hg => nomatch hg) ?_ ?_ ?_
          · simp only [wss, ws, wp.eq_1, wp.eq_2, wp.eq_3, wp.eq_4, wp.eq_5, wp.eq_6, wp.eq_7, wp.eq_8, wp.eq_9, wp.eq_10, wp.eq_11, wp.eq_12, wp.eq_13, wp.eq_14, wp.eq_15, wp.eq_16, wp.eq_17, wp.eq_18, wp.eq_19, wp.eq_20, wp.eq_22, wp.eq_23, wp.eq_24, wp.eq_25, wps, wpO, wpK, wpP, wpC, wpI, wpTg.eq_1, tg_tup, tg_fl, tg_cons, tg_nil, bodyPo, startD, shr_non, shr_bl, shr_int, shr_str, shr_ty, shr_tup, shr_lst, shr_fz, shr_dct, shr_loc, shr_fr, truth_bl, true_and, add_ii, sub_ii, mul_ii, fdiv_ii, mod_ii, pow_ii, lt_ii, le_ii, gt_ii, ge_ii, len_t, abs_i, int_i, int_b, Es.len, List.map_cons, List.map_nil, List.length_cons, List.length_nil, List.cons_append, List.nil_append, List.replicate_succ, List.replicate_zero, List.getElem?_cons_zero, List.getElem?_cons_succ, List.set_cons_zero, List.set_cons_succ, Option.some.injEq, exists_eq_left', Nat.zero_add, Nat.reduceAdd, Nat.reduceSub, eq_iff, ne_iff, ess_iff, nss_iff, max_iff, min_iff, isA_int, isA_bool, isA_tuple, isA_list, isA_str, okD_shr, ix0_2, ix1_2, ix0_3, ix1_3, ix2_3, ix0_1, decide_eq_true_eq, Bool.not_eq_true', Bool.not_eq_false', Bool.not_not, Bool.not_true, Bool.not_false, decide_eq_false_iff_not, List.cons.injEq, and_true, exists_and_left, exists_eq_left, exists_eq_right, D.int.injEq, if_true, if_false, Bool.false_eq_true, reduceCtorEq, ite_true, ite_false, D.tup.injEq, D.bl.injEq, D.str.injEq, Int.cast_ofNat_Int, Int.reduceEq, not_true_eq_false, not_false_eq_true, wipeD, List.foldr_cons, List.foldr_nil, add_tt, addll_iff, slt_iff, sll_iff, lstt_iff, lstl_iff, tupt_iff, tupl_iff, len_l, sizeLine_eq, Nat.reduceLeDiff]
            exact it_t ⟨rfl, rfl⟩
          · intro i x hx
            obtain ⟨d, hd, rfl⟩ := enum_at hx
            rw [List.getElem?_map] at hd
            obtain ⟨p, hp, rfl⟩ := Option.map_eq_some_iff.mp hd
            unfold pr tupI
            simp only [wss, ws, wp.eq_1, wp.eq_2, wp.eq_3, wp.eq_4, wp.eq_5, wp.eq_6, wp.eq_7, wp.eq_8, wp.eq_9, wp.eq_10, wp.eq_11, wp.eq_12, wp.eq_13, wp.eq_14, wp.eq_15, wp.eq_16, wp.eq_17, wp.eq_18, wp.eq_19, wp.eq_20, wp.eq_22, wp.eq_23, wp.eq_24, wp.eq_25, wps, wpO, wpK, wpP, wpC, wpI, wpTg.eq_1, tg_tup, tg_fl, tg_cons, tg_nil, bodyPo, startD, shr_non, shr_bl, shr_int, shr_str, shr_ty, shr_tup, shr_lst, shr_fz, shr_dct, shr_loc, shr_fr, truth_bl, true_and, add_ii, sub_ii, mul_ii, fdiv_ii, mod_ii, pow_ii, lt_ii, le_ii, gt_ii, ge_ii, len_t, abs_i, int_i, int_b, Es.len, List.map_cons, List.map_nil, List.length_cons, List.length_nil, List.cons_append, List.nil_append, List.replicate_succ, List.replicate_zero, List.getElem?_cons_zero, List.getElem?_cons_succ, List.set_cons_zero, List.set_cons_succ, Option.some.injEq, exists_eq_left', Nat.zero_add, Nat.reduceAdd, Nat.reduceSub, eq_iff, ne_iff, ess_iff, nss_iff, max_iff, min_iff, isA_int, isA_bool, isA_tuple, isA_list, isA_str, okD_shr, ix0_2, ix1_2, ix0_3, ix1_3, ix2_3, ix0_1, decide_eq_true_eq, Bool.not_eq_true', Bool.not_eq_false', Bool.not_not, Bool.not_true, Bool.not_false, decide_eq_false_iff_not, List.cons.injEq, and_true, exists_and_left, exists_eq_left, exists_eq_right, D.int.injEq, if_true, if_false, Bool.false_eq_true, reduceCtorEq, ite_true, ite_false, D.tup.injEq, D.bl.injEq, D.str.injEq, Int.cast_ofNat_Int, Int.reduceEq, not_true_eq_false, not_false_eq_true, wipeD, List.foldr_cons, List.foldr_nil, add_tt, addll_iff, slt_iff, sll_iff, lstt_iff, lstl_iff, tupt_iff, tupl_iff, len_l, sizeLine_eq, Nat.reduceLeDiff, wpK]
            exact ⟨rfl, fun _ => ⟨by rw [List.length_map]; omega, rfl⟩⟩
          · rw [enum_len, List.length_map]; omega
          · rw [onF_rf]
            have e4 : (rf b 0 ps).length ≤ 13 := by
              rw [← rf_idx, List.length_map]
              refine Nat.le_trans (List.length_filter_le _ _) ?_
              rw [enum_len, List.length_map]
              exact pl
            have hw : ∀ r ∈ rf b 0 ps, walk ps 0 (t ++ [r]) = some (hd ps r) := fun r hr => by
              obtain ⟨r0, p, hp, e, eh, _⟩ := rf_up up hr
              rw [eh]
              exact walk_snoc r0 hp hb e
            simp only [wss, ws, wp.eq_1, wp.eq_2, wp.eq_3, wp.eq_4, wp.eq_5, wp.eq_6, wp.eq_7, wp.eq_8, wp.eq_9, wp.eq_10, wp.eq_11, wp.eq_12, wp.eq_13, wp.eq_14, wp.eq_15, wp.eq_16, wp.eq_17, wp.eq_18, wp.eq_19, wp.eq_20, wp.eq_22, wp.eq_23, wp.eq_24, wp.eq_25, wps, wpO, wpK, wpP, wpC, wpI, wpTg.eq_1, tg_tup, tg_fl, tg_cons, tg_nil, bodyPo, startD, shr_non, shr_bl, shr_int, shr_str, shr_ty, shr_tup, shr_lst, shr_fz, shr_dct, shr_loc, shr_fr, truth_bl, true_and, add_ii, sub_ii, mul_ii, fdiv_ii, mod_ii, pow_ii, lt_ii, le_ii, gt_ii, ge_ii, len_t, abs_i, int_i, int_b, Es.len, List.map_cons, List.map_nil, List.length_cons, List.length_nil, List.cons_append, List.nil_append, List.replicate_succ, List.replicate_zero, List.getElem?_cons_zero, List.getElem?_cons_succ, List.set_cons_zero, List.set_cons_succ, Option.some.injEq, exists_eq_left', Nat.zero_add, Nat.reduceAdd, Nat.reduceSub, eq_iff, ne_iff, ess_iff, nss_iff, max_iff, min_iff, isA_int, isA_bool, isA_tuple, isA_list, isA_str, okD_shr, ix0_2, ix1_2, ix0_3, ix1_3, ix2_3, ix0_1, decide_eq_true_eq, Bool.not_eq_true', Bool.not_eq_false', Bool.not_not, Bool.not_true, Bool.not_false, decide_eq_false_iff_not, List.cons.injEq, and_true, exists_and_left, exists_eq_left, exists_eq_right, D.int.injEq, if_true, if_false, Bool.false_eq_true, reduceCtorEq, ite_true, ite_false, D.tup.injEq, D.bl.injEq, D.str.injEq, Int.cast_ofNat_Int, Int.reduceEq, not_true_eq_false, not_false_eq_true, wipeD, List.foldr_cons, List.foldr_nil, add_tt, addll_iff, slt_iff, sll_iff, lstt_iff, lstl_iff, tupt_iff, tupl_iff, len_l, sizeLine_eq, Nat.reduceLeDiff]
            refine ⟨by simp only [List.length_map]; omega, (rf b 0 ps).map (t ++ [·]), ?_, by rw [List.length_map]; exact e4, ?_, fun e he => ?_⟩
            · rw [List.map_append, List.map_map]
              rfl
            · unfold G
              rw [Ts_rec up (by omega) (by omega) (by omega), List.flatMap_map, List.map_flatMap]
              rw [List.flatMap_def, List.flatMap_def]
              refine congrArg List.flatten (List.map_congr_left fun r hr => ?_)
              unfold endOf
              rw [hw r hr, List.map_map]
              refine List.map_congr_left fun x _ => ?_
              show (t ++ [r]) ++ x = t ++ (r :: x)
              rw [List.append_assoc]; rfl
            · obtain ⟨r, hr, rfl⟩ := List.mem_map.mp he
              exact ⟨by rw [List.length_append, tl]; rfl, _, hw r hr⟩
        · rintro d M2 ⟨rfl, es, rfl, h7, h8, h6⟩
          refine ⟨ls ++ es, gs, _, _, _, _, hil, rfl, fun t' ht' => ?_, by rw [List.length_append]; omega, h3, by omega, G_more h5 h8, rfl⟩
          rcases List.mem_append.mp ht' with h | h
          · exact h1 t' h
          · exact h6 t' h
  · rename_i hne
    simp only [wss, ws, wp.eq_1, wp.eq_2, wp.eq_3, wp.eq_4, wp.eq_5, wp.eq_6, wp.eq_7, wp.eq_8, wp.eq_9, wp.eq_10, wp.eq_11, wp.eq_12, wp.eq_13, wp.eq_14, wp.eq_15, wp.eq_16, wp.eq_17, wp.eq_18, wp.eq_19, wp.eq_20, wp.eq_22, wp.eq_23, wp.eq_24, wp.eq_25, wps, wpO, wpK, wpP, wpC, wpI, wpTg.eq_1, tg_tup, tg_fl, tg_cons, tg_nil, bodyPo, startD, shr_non, shr_bl, shr_int, shr_str, shr_ty, shr_tup, shr_lst, shr_fz, shr_dct, shr_loc, shr_fr, truth_bl, true_and, add_ii, sub_ii, mul_ii, fdiv_ii, mod_ii, pow_ii, lt_ii, le_ii, gt_ii, ge_ii, len_t, abs_i, int_i, int_b, Es.len, List.map_cons, List.map_nil, List.length_cons, List.length_nil, List.cons_append, List.nil_append, List.replicate_succ, List.replicate_zero, List.getElem?_cons_zero, List.getElem?_cons_succ, List.set_cons_zero, List.set_cons_succ, Option.some.injEq, exists_eq_left', Nat.zero_add, Nat.reduceAdd, Nat.reduceSub, eq_iff, ne_iff, ess_iff, nss_iff, max_iff, min_iff, isA_int, isA_bool, isA_tuple, isA_list, isA_str, okD_shr, ix0_2, ix1_2, ix0_3, ix1_3, ix2_3, ix0_1, decide_eq_true_eq, Bool.not_eq_true', Bool.not_eq_false', Bool.not_not, Bool.not_true, Bool.not_false, decide_eq_false_iff_not, List.cons.injEq, and_true, exists_and_left, exists_eq_left, exists_eq_right, D.int.injEq, if_true, if_false, Bool.false_eq_true, reduceCtorEq, ite_true, ite_false, D.tup.injEq, D.bl.injEq, D.str.injEq, Int.cast_ofNat_Int, Int.reduceEq, not_true_eq_false, not_false_eq_true, wipeD, List.foldr_cons, List.foldr_nil]
    have hv0 : vs = [] := by
      cases vs with
      | nil => rfl
      | cons => exact absurd rfl hne
    subst hv0
    refine .inr ⟨_, fs, rfl, ls_loc atM, hfs, fun ts' hp hso => ?_⟩
    have e := Ts_sorted (m := m) (ps := ps) (a := 0) (hp.trans (by simpa [G] using hS)) hso
    subst e
    refine ret_fr (noLocs_of _ (shps fun y hy => ?_).1) q
    obtain ⟨t, _, rfl⟩ := List.mem_map.mp hy
    exact tupI_shp
end LK

set_option Elab.async false
set_option maxRecDepth 100000
set_option linter.all false
/-! trip_at. -/
namespace LK
open PySem L2 Lay RZ PyProof.Rows
theorem retx_same {M : Mem} {X : XP} {c : Str} (q : X ⟨c, []⟩ M) : RetX M X ⟨c, []⟩ M := ⟨M, [], ⟨c, []⟩, by simp, kept_self, rfl, .nil, q⟩
theorem ix_lff {xs : List D} {k : Int} {y : D} {M : Mem} {Qd : D → Prop} (e : atI xs k = some y) : opIx (.lst xs) (.int k) M Qd ↔ Qd y := by
  constructor
  · rintro (⟨_, _, d, e1, e2, e3, q⟩ | ⟨_, _, _, e1, _⟩ | ⟨_, _, _, e1, e2, e3, _⟩)
    · cases e2
      have e1 : some xs = some _ := e1
      cases e1
      rw [e] at e3; cases e3
      exact q
    · cases e1
    · cases e1
  · exact fun q => ix_sq rfl e q
theorem ix_arr {m : Int} {ps : List (Int × Int)} {b : Int} {M : Mem} {Q : D → Prop} (h0 : 0 ≤ b) (h1 : b < m) (m24 : m ≤ 24) : opIx (.lst (arr m ps 0)) (.int b) M Q ↔ Q (.int (w m ps b)) := by
  refine ix_lff ?_
  have := atI_nat (xs := arr m ps 0) (k := b.toNat) (x := .int (w m ps b)) (by rw [arr_at (by omega), Int.toNat_of_nonneg h0, if_pos h0]) (by rw [arr_len, sizeLine_eq]; omega)
  rwa [Int.toNat_of_nonneg h0] at this
theorem ix_ints {is : List Int} {i : Nat} {r : Int} {M : Mem} {Q : D → Prop} (h : is[i]? = some r) (hz : is.length ≤ 1000) : opIx (.tup (is.map .int)) (.int (i : Int)) M Q ↔ Q (.int r) := by
  refine ix_iff ?_
  exact atI_nat (xs := is.map .int) (k := i) (x := .int r) (by rw [List.getElem?_map, h]; rfl) (by rw [List.length_map, sizeLine_eq]; omega)
theorem rf_len {a : Int} {ps : List (Int × Int)} : (rf a 0 ps).length ≤ ps.length := by rw [← idx_rf]; exact idx_len
/-- how many roads begin at a place or behind it -/
def cge (ps : List (Int × Int)) (a : Int) : Nat := (ps.filter fun p => decide (a ≤ p.1)).length
theorem cge_step {a : Int} : ∀ ps : List (Int × Int), (ps.filter fun p => decide (p.1 = a)).length + cge ps (a + 1) = cge ps a
  | [] => rfl
  | p :: ps => by
    have ih := cge_step (a := a) ps
    unfold cge at ih ⊢
    rw [List.filter_cons, List.filter_cons, List.filter_cons]
    simp only [decide_eq_true_eq]
    by_cases h1 : p.1 = a
    · rw [if_pos h1, if_neg (by omega), if_pos (by omega)]
      simp only [List.length_cons]
      omega
    · rw [if_neg h1]
      by_cases h2 : a ≤ p.1
      · rw [if_pos (by omega), if_pos h2]
        simp only [List.length_cons]
        omega
      · rw [if_neg (by omega), if_neg h2]
        exact ih
theorem cge_anti {a b : Int} (h : a ≤ b) (ps : List (Int × Int)) : cge ps b ≤ cge ps a := by
  unfold cge
  induction ps with
  | nil => exact Nat.le_refl _
  | cons p ps ih =>
    rw [List.filter_cons, List.filter_cons]
    simp only [decide_eq_true_eq]
    split
    · rw [if_pos (by omega)]; simp only [List.length_cons]; omega
    · split
      · simp only [List.length_cons]; omega
      · exact ih
theorem pow_mono {a b : Nat} (h : a ≤ b) : (2 : Int) ^ a ≤ 2 ^ b := by
  have : (2 : Nat) ^ a ≤ 2 ^ b := Nat.pow_le_pow_right (by decide) h
  exact_mod_cast this
theorem W_2 {m : Int} {ps : List (Int × Int)} (u : Up m ps) : ∀ (n : Nat) (a : Int), W m ps n a ≤ 2 ^ cge ps a
  | 0, a => by
    have := pow_mono (Nat.zero_le (cge ps a))
    unfold W; split <;> simp at this ⊢ <;> omega
  | n + 1, a => by
    have := pow_mono (Nat.zero_le (cge ps a))
    unfold W
    split
    · simpa using this
    · have hs := sum_le (qs := ps.filter fun p => decide (p.1 = a)) (f := fun p => W m ps n p.2) (B := 2 ^ cge ps (a + 1)) fun p hp => by
        obtain ⟨h1, h2⟩ := List.mem_filter.mp hp
        have := u p h1
        have h2 := of_decide_eq_true h2
        exact ⟨(W_le (m := m) (ps := ps) (L := ps.length + 1) (by omega) (by omega) n p.2).1, Int.le_trans (W_2 u n p.2) (pow_mono (cge_anti (by omega) ps))⟩
      refine Int.le_trans hs.2 ?_
      have e := cge_step (a := a) ps
      rw [← e, Int.pow_add]
      have h3 : (((ps.filter fun p => decide (p.1 = a)).length : Nat) : Int) ≤ 2 ^ (ps.filter fun p => decide (p.1 = a)).length := by
        have : (ps.filter fun p => decide (p.1 = a)).length ≤ 2 ^ (ps.filter fun p => decide (p.1 = a)).length := Nat.le_of_lt Nat.lt_two_pow_self
        exact_mod_cast this
      exact Int.mul_le_mul_of_nonneg_right h3 (Int.pow_nonneg (by decide))
theorem w_2 {m : Int} {ps : List (Int × Int)} (u : Up m ps) (a : Int) {k : Nat} (h : ps.length ≤ k) : w m ps a ≤ 2 ^ k := by
  refine Int.le_trans (W_2 u m.toNat a) (pow_mono (Nat.le_trans ?_ h))
  exact List.length_filter_le _ _
def sp_trip_at : SD := fun ds M X Q => ∃ (m : Int) (ps : List (Int × Int)) (v : D), ds = [netD m ps, v] ∧ 2 ≤ m ∧ m ≤ 24 ∧ ps.length ≤ 60 ∧ Up m ps ∧ okD v = true ∧
  (∀ n t, v = .int n → 0 ≤ n → (Ts m ps 0)[n.toNat]? = some t → Q (tupI t) M) ∧ ((∀ n, v = .int n → n < 0 ∨ w m ps 0 ≤ n) → X ⟨"Unfit", []⟩ M)
theorem w_trip_at (Γ : Gam) (gm : GMono Γ) (hi : Γ "is_integer" = sp_is_integer) (hf : Γ "roads_from" = sp_from) (hw : Γ "ways_on" = sp_ways) (ds : List D) (M : Mem) (X : XP) (Q : Kd) (hl : ds.length = sig_trip_at.ps.length) (h : sp_trip_at ds M X Q) : wss Γ ir_trip_at (bodyPo M X Q) (startD cc_trip_at.N ds) M := by
  obtain ⟨m, ps, v, rfl, m2, m24, hz, u, hv, q, x⟩ := h
  unfold ir_trip_at cc_trip_at
  have hsz : sizeLine = 16777216 := sizeLine_eq
  have esh : shr (netD m ps) = netD m ps := rfl
  refine asg_cut gm (R := fun d M1 => d = .fr (.lst (arr m ps 0)) ∧ M1 = M) ?_ ?_
  · simp only [wss, ws, wp.eq_1, wp.eq_2, wp.eq_3, wp.eq_4, wp.eq_5, wp.eq_6, wp.eq_7, wp.eq_8, wp.eq_9, wp.eq_10, wp.eq_11, wp.eq_12, wp.eq_13, wp.eq_14, wp.eq_15, wp.eq_16, wp.eq_17, wp.eq_18, wp.eq_19, wp.eq_20, wp.eq_22, wp.eq_23, wp.eq_24, wp.eq_25, wps, wpO, wpK, wpP, wpC, wpI, wpTg.eq_1, tg_tup, tg_fl, tg_cons, tg_nil, bodyPo, startD, shr_non, shr_bl, shr_int, shr_str, shr_ty, shr_tup, shr_lst, shr_fz, shr_dct, shr_loc, shr_fr, truth_bl, true_and, add_ii, sub_ii, mul_ii, fdiv_ii, mod_ii, pow_ii, lt_ii, le_ii, gt_ii, ge_ii, len_t, abs_i, int_i, int_b, Es.len, List.map_cons, List.map_nil, List.length_cons, List.length_nil, List.cons_append, List.nil_append, List.replicate_succ, List.replicate_zero, List.getElem?_cons_zero, List.getElem?_cons_succ, List.set_cons_zero, List.set_cons_succ, Option.some.injEq, exists_eq_left', Nat.zero_add, Nat.reduceAdd, Nat.reduceSub, eq_iff, ne_iff, ess_iff, nss_iff, max_iff, min_iff, isA_int, isA_bool, isA_tuple, isA_list, isA_str, okD_shr, ix0_2, ix1_2, ix0_3, ix1_3, ix2_3, ix0_1, decide_eq_true_eq, Bool.not_eq_true', Bool.not_eq_false', Bool.not_not, Bool.not_true, Bool.not_false, decide_eq_false_iff_not, List.cons.injEq, and_true, exists_and_left, exists_eq_left, exists_eq_right, D.int.injEq, if_true, if_false, Bool.false_eq_true, reduceCtorEq, ite_true, ite_false, D.tup.injEq, D.bl.injEq, D.str.injEq, Int.cast_ofNat_Int, Int.reduceEq, not_true_eq_false, not_false_eq_true, wipeD, List.foldr_cons, List.foldr_nil, add_tt, addll_iff, slt_iff, sll_iff, lstt_iff, lstl_iff, tupt_iff, tupl_iff, len_l, sizeLine_eq, Nat.reduceLeDiff, esh, hw]
    exact ⟨m, ps, rfl, m2, m24, hz, u, rfl, rfl⟩
  rintro d M1 ⟨rfl, rfl⟩
  simp only [startD, wpTg.eq_1, tg_tup, tg_fl, tg_cons, tg_nil, shr_non, shr_bl, shr_int, shr_str, shr_ty, shr_tup, shr_lst, shr_fz, shr_dct, shr_loc, shr_fr, List.map_cons, List.map_nil, List.length_cons, List.length_nil, List.cons_append, List.nil_append, List.replicate_succ, List.replicate_zero, List.set_cons_zero, List.set_cons_succ, Nat.zero_add, Nat.reduceAdd, Nat.reduceSub]
  by_cases hr : ∃ n, v = .int n ∧ 0 ≤ n ∧ n < w m ps 0
  · obtain ⟨n, rfl, n0, n1⟩ := hr
    refine ite_cut gm (b := false) ?_ ?_
    · simp only [wss, ws, wp.eq_1, wp.eq_2, wp.eq_3, wp.eq_4, wp.eq_5, wp.eq_6, wp.eq_7, wp.eq_8, wp.eq_9, wp.eq_10, wp.eq_11, wp.eq_12, wp.eq_13, wp.eq_14, wp.eq_15, wp.eq_16, wp.eq_17, wp.eq_18, wp.eq_19, wp.eq_20, wp.eq_22, wp.eq_23, wp.eq_24, wp.eq_25, wps, wpO, wpK, wpP, wpC, wpI, wpTg.eq_1, tg_tup, tg_fl, tg_cons, tg_nil, bodyPo, startD, shr_non, shr_bl, shr_int, shr_str, shr_ty, shr_tup, shr_lst, shr_fz, shr_dct, shr_loc, shr_fr, truth_bl, true_and, add_ii, sub_ii, mul_ii, fdiv_ii, mod_ii, pow_ii, lt_ii, le_ii, gt_ii, ge_ii, len_t, abs_i, int_i, int_b, Es.len, List.map_cons, List.map_nil, List.length_cons, List.length_nil, List.cons_append, List.nil_append, List.replicate_succ, List.replicate_zero, List.getElem?_cons_zero, List.getElem?_cons_succ, List.set_cons_zero, List.set_cons_succ, Option.some.injEq, exists_eq_left', Nat.zero_add, Nat.reduceAdd, Nat.reduceSub, eq_iff, ne_iff, ess_iff, nss_iff, max_iff, min_iff, isA_int, isA_bool, isA_tuple, isA_list, isA_str, okD_shr, ix0_2, ix1_2, ix0_3, ix1_3, ix2_3, ix0_1, decide_eq_true_eq, Bool.not_eq_true', Bool.not_eq_false', Bool.not_not, Bool.not_true, Bool.not_false, decide_eq_false_iff_not, List.cons.injEq, and_true, exists_and_left, exists_eq_left, exists_eq_right, D.int.injEq, if_true, if_false, Bool.false_eq_true, reduceCtorEq, ite_true, ite_false, D.tup.injEq, D.bl.injEq, D.str.injEq, Int.cast_ofNat_Int, Int.reduceEq, not_true_eq_false, not_false_eq_true, wipeD, List.foldr_cons, List.foldr_nil, add_tt, addll_iff, slt_iff, sll_iff, lstt_iff, lstl_iff, tupt_iff, tupl_iff, len_l, sizeLine_eq, Nat.reduceLeDiff, hi, sp_is_integer]
      refine ⟨rfl, ?_⟩
      simp only [wss, ws, wp.eq_1, wp.eq_2, wp.eq_3, wp.eq_4, wp.eq_5, wp.eq_6, wp.eq_7, wp.eq_8, wp.eq_9, wp.eq_10, wp.eq_11, wp.eq_12, wp.eq_13, wp.eq_14, wp.eq_15, wp.eq_16, wp.eq_17, wp.eq_18, wp.eq_19, wp.eq_20, wp.eq_22, wp.eq_23, wp.eq_24, wp.eq_25, wps, wpO, wpK, wpP, wpC, wpI, wpTg.eq_1, tg_tup, tg_fl, tg_cons, tg_nil, bodyPo, startD, shr_non, shr_bl, shr_int, shr_str, shr_ty, shr_tup, shr_lst, shr_fz, shr_dct, shr_loc, shr_fr, truth_bl, true_and, add_ii, sub_ii, mul_ii, fdiv_ii, mod_ii, pow_ii, lt_ii, le_ii, gt_ii, ge_ii, len_t, abs_i, int_i, int_b, Es.len, List.map_cons, List.map_nil, List.length_cons, List.length_nil, List.cons_append, List.nil_append, List.replicate_succ, List.replicate_zero, List.getElem?_cons_zero, List.getElem?_cons_succ, List.set_cons_zero, List.set_cons_succ, Option.some.injEq, exists_eq_left', Nat.zero_add, Nat.reduceAdd, Nat.reduceSub, eq_iff, ne_iff, ess_iff, nss_iff, max_iff, min_iff, isA_int, isA_bool, isA_tuple, isA_list, isA_str, okD_shr, ix0_2, ix1_2, ix0_3, ix1_3, ix2_3, ix0_1, decide_eq_true_eq, Bool.not_eq_true', Bool.not_eq_false', Bool.not_not, Bool.not_true, Bool.not_false, decide_eq_false_iff_not, List.cons.injEq, and_true, exists_and_left, exists_eq_left, exists_eq_right, D.int.injEq, if_true, if_false, Bool.false_eq_true, reduceCtorEq, ite_true, ite_false, D.tup.injEq, D.bl.injEq, D.str.injEq, Int.cast_ofNat_Int, Int.reduceEq, not_true_eq_false, not_false_eq_true, wipeD, List.foldr_cons, List.foldr_nil, add_tt, addll_iff, slt_iff, sll_iff, lstt_iff, lstl_iff, tupt_iff, tupl_iff, len_l, sizeLine_eq, Nat.reduceLeDiff, ix_arr (b := 0) (by decide) (show 0 < m by omega) m24]
      rw [if_neg (show ¬ isInt (.int n) = false from fun e => nomatch e), if_pos n0]
      exact n1
    rw [if_neg Bool.false_ne_true]
    have hlen := Ts_len (m := m) (ps := ps) (a := 0)
    obtain ⟨t0, ht0⟩ : ∃ t, (Ts m ps 0)[n.toNat]? = some t := ⟨_, List.getElem?_eq_getElem (by omega)⟩
    have q := q n t0 rfl n0 ht0
    refine asg_cut gm (R := fun d M2 => d = .tup [.loc M1.length, .int 0, .int n] ∧ M2 = M1 ++ [.lst (([] : List Int).map .int)]) ?_ ?_
    · simp only [wss, ws, wp.eq_1, wp.eq_2, wp.eq_3, wp.eq_4, wp.eq_5, wp.eq_6, wp.eq_7, wp.eq_8, wp.eq_9, wp.eq_10, wp.eq_11, wp.eq_12, wp.eq_13, wp.eq_14, wp.eq_15, wp.eq_16, wp.eq_17, wp.eq_18, wp.eq_19, wp.eq_20, wp.eq_22, wp.eq_23, wp.eq_24, wp.eq_25, wps, wpO, wpK, wpP, wpC, wpI, wpTg.eq_1, tg_tup, tg_fl, tg_cons, tg_nil, bodyPo, startD, shr_non, shr_bl, shr_int, shr_str, shr_ty, shr_tup, shr_lst, shr_fz, shr_dct, shr_loc, shr_fr, truth_bl, true_and, add_ii, sub_ii, mul_ii, fdiv_ii, mod_ii, pow_ii, lt_ii, le_ii, gt_ii, ge_ii, len_t, abs_i, int_i, int_b, Es.len, List.map_cons, List.map_nil, List.length_cons, List.length_nil, List.cons_append, List.nil_append, List.replicate_succ, List.replicate_zero, List.getElem?_cons_zero, List.getElem?_cons_succ, List.set_cons_zero, List.set_cons_succ, Option.some.injEq, exists_eq_left', Nat.zero_add, Nat.reduceAdd, Nat.reduceSub, eq_iff, ne_iff, ess_iff, nss_iff, max_iff, min_iff, isA_int, isA_bool, isA_tuple, isA_list, isA_str, okD_shr, ix0_2, ix1_2, ix0_3, ix1_3, ix2_3, ix0_1, decide_eq_true_eq, Bool.not_eq_true', Bool.not_eq_false', Bool.not_not, Bool.not_true, Bool.not_false, decide_eq_false_iff_not, List.cons.injEq, and_true, exists_and_left, exists_eq_left, exists_eq_right, D.int.injEq, if_true, if_false, Bool.false_eq_true, reduceCtorEq, ite_true, ite_false, D.tup.injEq, D.bl.injEq, D.str.injEq, Int.cast_ofNat_Int, Int.reduceEq, not_true_eq_false, not_false_eq_true, wipeD, List.foldr_cons, List.foldr_nil, add_tt, addll_iff, slt_iff, sll_iff, lstt_iff, lstl_iff, tupt_iff, tupl_iff, len_l, sizeLine_eq, Nat.reduceLeDiff]
      exact .inl ⟨[], rfl, rfl⟩
    rintro d M2 ⟨rfl, rfl⟩
    simp only [startD, wpTg.eq_1, tg_tup, tg_fl, tg_cons, tg_nil, shr_non, shr_bl, shr_int, shr_str, shr_ty, shr_tup, shr_lst, shr_fz, shr_dct, shr_loc, shr_fr, List.map_cons, List.map_nil, List.length_cons, List.length_nil, List.cons_append, List.nil_append, List.replicate_succ, List.replicate_zero, List.set_cons_zero, List.set_cons_succ, Nat.zero_add, Nat.reduceAdd, Nat.reduceSub]
    refine whl_cut gm (fun k σ M' => ∃ (p l : Int) (fs t : List Int) (c6 c7 : Option D), k = (m - 1 - p).toNat ∧ 0 ≤ p ∧ p < m ∧ 0 ≤ l ∧ (Ts m ps p)[l.toNat]? = some t ∧ t0 = fs ++ t ∧ (fs.length : Int) ≤ p ∧ M' = M1 ++ [.lst (fs.map .int)] ∧
      σ = [some (netD m ps), some (.int n), some (.lst (arr m ps 0)), some (.loc M1.length), some (.int p), some (.int l), c6, c7]) ⟨_, 0, n, [], t0, _, _, rfl, by omega, by omega, n0, ht0, rfl, by simp, rfl, rfl⟩ ?_
    rintro k σ M' ⟨p, l, fs, t, c6, c7, rfl, p0, p1, l0, ht, et, fl, rfl, rfl⟩
    refine ⟨decide (p < m - 1), by simp only [wss, ws, wp.eq_1, wp.eq_2, wp.eq_3, wp.eq_4, wp.eq_5, wp.eq_6, wp.eq_7, wp.eq_8, wp.eq_9, wp.eq_10, wp.eq_11, wp.eq_12, wp.eq_13, wp.eq_14, wp.eq_15, wp.eq_16, wp.eq_17, wp.eq_18, wp.eq_19, wp.eq_20, wp.eq_22, wp.eq_23, wp.eq_24, wp.eq_25, wps, wpO, wpK, wpP, wpC, wpI, wpTg.eq_1, tg_tup, tg_fl, tg_cons, tg_nil, bodyPo, startD, shr_non, shr_bl, shr_int, shr_str, shr_ty, shr_tup, shr_lst, shr_fz, shr_dct, shr_loc, shr_fr, truth_bl, true_and, add_ii, sub_ii, mul_ii, fdiv_ii, mod_ii, pow_ii, lt_ii, le_ii, gt_ii, ge_ii, len_t, abs_i, int_i, int_b, Es.len, List.map_cons, List.map_nil, List.length_cons, List.length_nil, List.cons_append, List.nil_append, List.replicate_succ, List.replicate_zero, List.getElem?_cons_zero, List.getElem?_cons_succ, List.set_cons_zero, List.set_cons_succ, Option.some.injEq, exists_eq_left', Nat.zero_add, Nat.reduceAdd, Nat.reduceSub, eq_iff, ne_iff, ess_iff, nss_iff, max_iff, min_iff, isA_int, isA_bool, isA_tuple, isA_list, isA_str, okD_shr, ix0_2, ix1_2, ix0_3, ix1_3, ix2_3, ix0_1, decide_eq_true_eq, Bool.not_eq_true', Bool.not_eq_false', Bool.not_not, Bool.not_true, Bool.not_false, decide_eq_false_iff_not, List.cons.injEq, and_true, exists_and_left, exists_eq_left, exists_eq_right, D.int.injEq, if_true, if_false, Bool.false_eq_true, reduceCtorEq, ite_true, ite_false, D.tup.injEq, D.bl.injEq, D.str.injEq, Int.cast_ofNat_Int, Int.reduceEq, not_true_eq_false, not_false_eq_true, wipeD, List.foldr_cons, List.foldr_nil, add_tt, addll_iff, slt_iff, sll_iff, lstt_iff, lstl_iff, tupt_iff, tupl_iff, len_l, sizeLine_eq, Nat.reduceLeDiff, netD], ?_⟩
    split
    · rename_i hp
      have hp := of_decide_eq_true hp
      rw [Ts_rec u (by omega) p0 hp] at ht
      generalize hrs : rf p 0 ps = rs at ht
      have rl : rs.length ≤ 60 := by rw [← hrs]; exact Nat.le_trans rf_len hz
      refine asg_cut gm (R := fun d M2 => d = .tup [.tup (rs.map .int), .int 0] ∧ M2 = M1 ++ [.lst (fs.map .int)]) ?_ ?_
      · simp only [wss, ws, wp.eq_1, wp.eq_2, wp.eq_3, wp.eq_4, wp.eq_5, wp.eq_6, wp.eq_7, wp.eq_8, wp.eq_9, wp.eq_10, wp.eq_11, wp.eq_12, wp.eq_13, wp.eq_14, wp.eq_15, wp.eq_16, wp.eq_17, wp.eq_18, wp.eq_19, wp.eq_20, wp.eq_22, wp.eq_23, wp.eq_24, wp.eq_25, wps, wpO, wpK, wpP, wpC, wpI, wpTg.eq_1, tg_tup, tg_fl, tg_cons, tg_nil, bodyPo, startD, shr_non, shr_bl, shr_int, shr_str, shr_ty, shr_tup, shr_lst, shr_fz, shr_dct, shr_loc, shr_fr, truth_bl, true_and, add_ii, sub_ii, mul_ii, fdiv_ii, mod_ii, pow_ii, lt_ii, le_ii, gt_ii, ge_ii, len_t, abs_i, int_i, int_b, Es.len, List.map_cons, List.map_nil, List.length_cons, List.length_nil, List.cons_append, List.nil_append, List.replicate_succ, List.replicate_zero, List.getElem?_cons_zero, List.getElem?_cons_succ, List.set_cons_zero, List.set_cons_succ, Option.some.injEq, exists_eq_left', Nat.zero_add, Nat.reduceAdd, Nat.reduceSub, eq_iff, ne_iff, ess_iff, nss_iff, max_iff, min_iff, isA_int, isA_bool, isA_tuple, isA_list, isA_str, okD_shr, ix0_2, ix1_2, ix0_3, ix1_3, ix2_3, ix0_1, decide_eq_true_eq, Bool.not_eq_true', Bool.not_eq_false', Bool.not_not, Bool.not_true, Bool.not_false, decide_eq_false_iff_not, List.cons.injEq, and_true, exists_and_left, exists_eq_left, exists_eq_right, D.int.injEq, if_true, if_false, Bool.false_eq_true, reduceCtorEq, ite_true, ite_false, D.tup.injEq, D.bl.injEq, D.str.injEq, Int.cast_ofNat_Int, Int.reduceEq, not_true_eq_false, not_false_eq_true, wipeD, List.foldr_cons, List.foldr_nil, add_tt, addll_iff, slt_iff, sll_iff, lstt_iff, lstl_iff, tupt_iff, tupl_iff, len_l, sizeLine_eq, Nat.reduceLeDiff, esh, hf]
        exact ⟨m, ps, p, rfl, by omega, by rw [idx_rf, hrs]; simp only [wss, ws, wp.eq_1, wp.eq_2, wp.eq_3, wp.eq_4, wp.eq_5, wp.eq_6, wp.eq_7, wp.eq_8, wp.eq_9, wp.eq_10, wp.eq_11, wp.eq_12, wp.eq_13, wp.eq_14, wp.eq_15, wp.eq_16, wp.eq_17, wp.eq_18, wp.eq_19, wp.eq_20, wp.eq_22, wp.eq_23, wp.eq_24, wp.eq_25, wps, wpO, wpK, wpP, wpC, wpI, wpTg.eq_1, tg_tup, tg_fl, tg_cons, tg_nil, bodyPo, startD, shr_non, shr_bl, shr_int, shr_str, shr_ty, shr_tup, shr_lst, shr_fz, shr_dct, shr_loc, shr_fr, truth_bl, true_and, add_ii, sub_ii, mul_ii, fdiv_ii, mod_ii, pow_ii, lt_ii, le_ii, gt_ii, ge_ii, len_t, abs_i, int_i, int_b, Es.len, List.map_cons, List.map_nil, List.length_cons, List.length_nil, List.cons_append, List.nil_append, List.replicate_succ, List.replicate_zero, List.getElem?_cons_zero, List.getElem?_cons_succ, List.set_cons_zero, List.set_cons_succ, Option.some.injEq, exists_eq_left', Nat.zero_add, Nat.reduceAdd, Nat.reduceSub, eq_iff, ne_iff, ess_iff, nss_iff, max_iff, min_iff, isA_int, isA_bool, isA_tuple, isA_list, isA_str, okD_shr, ix0_2, ix1_2, ix0_3, ix1_3, ix2_3, ix0_1, decide_eq_true_eq, Bool.not_eq_true', Bool.not_eq_false', Bool.not_not, Bool.not_true, Bool.not_false, decide_eq_false_iff_not, List.cons.injEq, and_true, exists_and_left, exists_eq_left, exists_eq_right, D.int.injEq, if_true, if_false, Bool.false_eq_true, reduceCtorEq, ite_true, ite_false, D.tup.injEq, D.bl.injEq, D.str.injEq, Int.cast_ofNat_Int, Int.reduceEq, not_true_eq_false, not_false_eq_true, wipeD, List.foldr_cons, List.foldr_nil, add_tt, addll_iff, slt_iff, sll_iff, lstt_iff, lstl_iff, tupt_iff, tupl_iff, len_l, sizeLine_eq, Nat.reduceLeDiff]⟩
      rintro d M2 ⟨rfl, rfl⟩
      simp only [startD, wpTg.eq_1, tg_tup, tg_fl, tg_cons, tg_nil, shr_non, shr_bl, shr_int, shr_str, shr_ty, shr_tup, shr_lst, shr_fz, shr_dct, shr_loc, shr_fr, List.map_cons, List.map_nil, List.length_cons, List.length_nil, List.cons_append, List.nil_append, List.replicate_succ, List.replicate_zero, List.set_cons_zero, List.set_cons_succ, Nat.zero_add, Nat.reduceAdd, Nat.reduceSub]
      have ixs : ∀ {r : Int}, r ∈ rs → ∃ p' : Int × Int, ps[r.toNat]? = some p' ∧ 0 ≤ r ∧ hd ps r = p'.2 ∧ p < p'.2 ∧ p'.2 < m := fun {r} hr => by
        rw [← hrs] at hr
        obtain ⟨r0, p', hp', _, eh, _, hlt, hm⟩ := rf_up u hr
        exact ⟨p', hp', r0, eh, hlt, hm⟩
      refine whl_cut gm (fun k σ M' => ∃ (i : Nat) (l : Int), k = rs.length - i ∧ 0 ≤ l ∧ ((rs.drop i).flatMap fun r => (Ts m ps (hd ps r)).map (r :: ·))[l.toNat]? = some t ∧ M' = M1 ++ [.lst (fs.map .int)] ∧
        σ = [some (netD m ps), some (.int n), some (.lst (arr m ps 0)), some (.loc M1.length), some (.int p), some (.int l), some (.tup (rs.map .int)), some (.int (i : Int))]) ⟨_, 0, l, rfl, l0, ht, rfl, rfl⟩ ?_
      rintro k σ M' ⟨i, l, rfl, l0, ht, rfl, rfl⟩
      have hil : i < rs.length := by
        refine Nat.lt_of_not_le fun hle => ?_
        rw [List.drop_eq_nil_of_le hle] at ht
        cases ht
      obtain ⟨r, hr⟩ : ∃ r, rs[i]? = some r := ⟨_, List.getElem?_eq_getElem hil⟩
      obtain ⟨p', hp', r0, eh, hlt, hm⟩ := ixs (List.mem_of_getElem? hr)
      have un := un_step hr l0 ht
      rw [eh] at un
      refine ⟨decide (w m ps p'.2 ≤ l), ?_, ?_⟩
      · simp only [wss, ws, wp.eq_1, wp.eq_2, wp.eq_3, wp.eq_4, wp.eq_5, wp.eq_6, wp.eq_7, wp.eq_8, wp.eq_9, wp.eq_10, wp.eq_11, wp.eq_12, wp.eq_13, wp.eq_14, wp.eq_15, wp.eq_16, wp.eq_17, wp.eq_18, wp.eq_19, wp.eq_20, wp.eq_22, wp.eq_23, wp.eq_24, wp.eq_25, wps, wpO, wpK, wpP, wpC, wpI, wpTg.eq_1, tg_tup, tg_fl, tg_cons, tg_nil, bodyPo, startD, shr_non, shr_bl, shr_int, shr_str, shr_ty, shr_tup, shr_lst, shr_fz, shr_dct, shr_loc, shr_fr, truth_bl, true_and, add_ii, sub_ii, mul_ii, fdiv_ii, mod_ii, pow_ii, lt_ii, le_ii, gt_ii, ge_ii, len_t, abs_i, int_i, int_b, Es.len, List.map_cons, List.map_nil, List.length_cons, List.length_nil, List.cons_append, List.nil_append, List.replicate_succ, List.replicate_zero, List.getElem?_cons_zero, List.getElem?_cons_succ, List.set_cons_zero, List.set_cons_succ, Option.some.injEq, exists_eq_left', Nat.zero_add, Nat.reduceAdd, Nat.reduceSub, eq_iff, ne_iff, ess_iff, nss_iff, max_iff, min_iff, isA_int, isA_bool, isA_tuple, isA_list, isA_str, okD_shr, ix0_2, ix1_2, ix0_3, ix1_3, ix2_3, ix0_1, decide_eq_true_eq, Bool.not_eq_true', Bool.not_eq_false', Bool.not_not, Bool.not_true, Bool.not_false, decide_eq_false_iff_not, List.cons.injEq, and_true, exists_and_left, exists_eq_left, exists_eq_right, D.int.injEq, if_true, if_false, Bool.false_eq_true, reduceCtorEq, ite_true, ite_false, D.tup.injEq, D.bl.injEq, D.str.injEq, Int.cast_ofNat_Int, Int.reduceEq, not_true_eq_false, not_false_eq_true, wipeD, List.foldr_cons, List.foldr_nil, add_tt, addll_iff, slt_iff, sll_iff, lstt_iff, lstl_iff, tupt_iff, tupl_iff, len_l, sizeLine_eq, Nat.reduceLeDiff, netD, ix_ints hr (by omega), ix_ps r0 hp' (by omega), ix_arr (b := p'.2) (by omega) hm m24]
      split
      · rename_i hwl
        have hwl := of_decide_eq_true hwl
        rw [if_pos hwl] at un
        refine asg_cut gm (R := fun d M2 => d = .tup [.int (l - w m ps p'.2), .int ((i + 1 : Nat) : Int)] ∧ M2 = M1 ++ [.lst (fs.map .int)]) ?_ ?_
        · simp only [wss, ws, wp.eq_1, wp.eq_2, wp.eq_3, wp.eq_4, wp.eq_5, wp.eq_6, wp.eq_7, wp.eq_8, wp.eq_9, wp.eq_10, wp.eq_11, wp.eq_12, wp.eq_13, wp.eq_14, wp.eq_15, wp.eq_16, wp.eq_17, wp.eq_18, wp.eq_19, wp.eq_20, wp.eq_22, wp.eq_23, wp.eq_24, wp.eq_25, wps, wpO, wpK, wpP, wpC, wpI, wpTg.eq_1, tg_tup, tg_fl, tg_cons, tg_nil, bodyPo, startD, shr_non, shr_bl, shr_int, shr_str, shr_ty, shr_tup, shr_lst, shr_fz, shr_dct, shr_loc, shr_fr, truth_bl, true_and, add_ii, sub_ii, mul_ii, fdiv_ii, mod_ii, pow_ii, lt_ii, le_ii, gt_ii, ge_ii, len_t, abs_i, int_i, int_b, Es.len, List.map_cons, List.map_nil, List.length_cons, List.length_nil, List.cons_append, List.nil_append, List.replicate_succ, List.replicate_zero, List.getElem?_cons_zero, List.getElem?_cons_succ, List.set_cons_zero, List.set_cons_succ, Option.some.injEq, exists_eq_left', Nat.zero_add, Nat.reduceAdd, Nat.reduceSub, eq_iff, ne_iff, ess_iff, nss_iff, max_iff, min_iff, isA_int, isA_bool, isA_tuple, isA_list, isA_str, okD_shr, ix0_2, ix1_2, ix0_3, ix1_3, ix2_3, ix0_1, decide_eq_true_eq, Bool.not_eq_true', Bool.not_eq_false', Bool.not_not, Bool.not_true, Bool.not_false, decide_eq_false_iff_not, List.cons.injEq, and_true, exists_and_left, exists_eq_left, exists_eq_right, D.int.injEq, if_true, if_false, Bool.false_eq_true, reduceCtorEq, ite_true, ite_false, D.tup.injEq, D.bl.injEq, D.str.injEq, Int.cast_ofNat_Int, Int.reduceEq, not_true_eq_false, not_false_eq_true, wipeD, List.foldr_cons, List.foldr_nil, add_tt, addll_iff, slt_iff, sll_iff, lstt_iff, lstl_iff, tupt_iff, tupl_iff, len_l, sizeLine_eq, Nat.reduceLeDiff, netD, ix_ints hr (by omega), ix_ps r0 hp' (by omega), ix_arr (b := p'.2) (by omega) hm m24]
          omega
        rintro d M2 ⟨rfl, rfl⟩
        simp only [startD, wpTg.eq_1, tg_tup, tg_fl, tg_cons, tg_nil, shr_non, shr_bl, shr_int, shr_str, shr_ty, shr_tup, shr_lst, shr_fz, shr_dct, shr_loc, shr_fr, List.map_cons, List.map_nil, List.length_cons, List.length_nil, List.cons_append, List.nil_append, List.replicate_succ, List.replicate_zero, List.set_cons_zero, List.set_cons_succ, Nat.zero_add, Nat.reduceAdd, Nat.reduceSub]
        exact ⟨rs.length - (i + 1), by omega, i + 1, _, rfl, by omega, un, rfl, rfl⟩
      · rename_i hwl
        have hwl : ¬ w m ps p'.2 ≤ l := fun e => hwl (decide_eq_true e)
        rw [if_neg hwl] at un
        obtain ⟨t', rfl, ht'⟩ := un
        refine ex_cut gm (R := fun _ M2 => M2 = M1 ++ [.lst ((fs ++ [r]).map .int)]) ?_ ?_
        · simp only [wss, ws, wp.eq_1, wp.eq_2, wp.eq_3, wp.eq_4, wp.eq_5, wp.eq_6, wp.eq_7, wp.eq_8, wp.eq_9, wp.eq_10, wp.eq_11, wp.eq_12, wp.eq_13, wp.eq_14, wp.eq_15, wp.eq_16, wp.eq_17, wp.eq_18, wp.eq_19, wp.eq_20, wp.eq_22, wp.eq_23, wp.eq_24, wp.eq_25, wps, wpO, wpK, wpP, wpC, wpI, wpTg.eq_1, tg_tup, tg_fl, tg_cons, tg_nil, bodyPo, startD, shr_non, shr_bl, shr_int, shr_str, shr_ty, shr_tup, shr_lst, shr_fz, shr_dct, shr_loc, shr_fr, truth_bl, true_and, add_ii, sub_ii, mul_ii, fdiv_ii, mod_ii, pow_ii, lt_ii, le_ii, gt_ii, ge_ii, len_t, abs_i, int_i, int_b, Es.len, List.map_cons, List.map_nil, List.length_cons, List.length_nil, List.cons_append, List.nil_append, List.replicate_succ, List.replicate_zero, List.getElem?_cons_zero, List.getElem?_cons_succ, List.set_cons_zero, List.set_cons_succ, Option.some.injEq, exists_eq_left', Nat.zero_add, Nat.reduceAdd, Nat.reduceSub, eq_iff, ne_iff, ess_iff, nss_iff, max_iff, min_iff, isA_int, isA_bool, isA_tuple, isA_list, isA_str, okD_shr, ix0_2, ix1_2, ix0_3, ix1_3, ix2_3, ix0_1, decide_eq_true_eq, Bool.not_eq_true', Bool.not_eq_false', Bool.not_not, Bool.not_true, Bool.not_false, decide_eq_false_iff_not, List.cons.injEq, and_true, exists_and_left, exists_eq_left, exists_eq_right, D.int.injEq, if_true, if_false, Bool.false_eq_true, reduceCtorEq, ite_true, ite_false, D.tup.injEq, D.bl.injEq, D.str.injEq, Int.cast_ofNat_Int, Int.reduceEq, not_true_eq_false, not_false_eq_true, wipeD, List.foldr_cons, List.foldr_nil, add_tt, addll_iff, slt_iff, sll_iff, lstt_iff, lstl_iff, tupt_iff, tupl_iff, len_l, sizeLine_eq, Nat.reduceLeDiff, ix_ints hr (by omega)]
          refine ⟨⟨_, rfl, _, atM⟩, ?_⟩
          refine app_of atM (by rw [List.length_map]; omega) ?_
          rw [setM]
          simp
        rintro d M2 rfl
        refine asg_cut gm (R := fun d M2 => d = .int p'.2 ∧ M2 = M1 ++ [.lst ((fs ++ [r]).map .int)]) ?_ ?_
        · simp only [wss, ws, wp.eq_1, wp.eq_2, wp.eq_3, wp.eq_4, wp.eq_5, wp.eq_6, wp.eq_7, wp.eq_8, wp.eq_9, wp.eq_10, wp.eq_11, wp.eq_12, wp.eq_13, wp.eq_14, wp.eq_15, wp.eq_16, wp.eq_17, wp.eq_18, wp.eq_19, wp.eq_20, wp.eq_22, wp.eq_23, wp.eq_24, wp.eq_25, wps, wpO, wpK, wpP, wpC, wpI, wpTg.eq_1, tg_tup, tg_fl, tg_cons, tg_nil, bodyPo, startD, shr_non, shr_bl, shr_int, shr_str, shr_ty, shr_tup, shr_lst, shr_fz, shr_dct, shr_loc, shr_fr, truth_bl, true_and, add_ii, sub_ii, mul_ii, fdiv_ii, mod_ii, pow_ii, lt_ii, le_ii, gt_ii, ge_ii, len_t, abs_i, int_i, int_b, Es.len, List.map_cons, List.map_nil, List.length_cons, List.length_nil, List.cons_append, List.nil_append, List.replicate_succ, List.replicate_zero, List.getElem?_cons_zero, List.getElem?_cons_succ, List.set_cons_zero, List.set_cons_succ, Option.some.injEq, exists_eq_left', Nat.zero_add, Nat.reduceAdd, Nat.reduceSub, eq_iff, ne_iff, ess_iff, nss_iff, max_iff, min_iff, isA_int, isA_bool, isA_tuple, isA_list, isA_str, okD_shr, ix0_2, ix1_2, ix0_3, ix1_3, ix2_3, ix0_1, decide_eq_true_eq, Bool.not_eq_true', Bool.not_eq_false', Bool.not_not, Bool.not_true, Bool.not_false, decide_eq_false_iff_not, List.cons.injEq, and_true, exists_and_left, exists_eq_left, exists_eq_right, D.int.injEq, if_true, if_false, Bool.false_eq_true, reduceCtorEq, ite_true, ite_false, D.tup.injEq, D.bl.injEq, D.str.injEq, Int.cast_ofNat_Int, Int.reduceEq, not_true_eq_false, not_false_eq_true, wipeD, List.foldr_cons, List.foldr_nil, add_tt, addll_iff, slt_iff, sll_iff, lstt_iff, lstl_iff, tupt_iff, tupl_iff, len_l, sizeLine_eq, Nat.reduceLeDiff, netD, ix_ints hr (by omega), ix_ps r0 hp' (by omega)]
        rintro d M2 ⟨rfl, rfl⟩
        simp only [startD, wpTg.eq_1, tg_tup, tg_fl, tg_cons, tg_nil, shr_non, shr_bl, shr_int, shr_str, shr_ty, shr_tup, shr_lst, shr_fz, shr_dct, shr_loc, shr_fr, List.map_cons, List.map_nil, List.length_cons, List.length_nil, List.cons_append, List.nil_append, List.replicate_succ, List.replicate_zero, List.set_cons_zero, List.set_cons_succ, Nat.zero_add, Nat.reduceAdd, Nat.reduceSub]
        refine ⟨(m - 1 - p'.2).toNat, by omega, p'.2, l, fs ++ [r], t', _, _, rfl, by omega, hm, l0, ht', by rw [et, List.append_assoc]; rfl, ?_, rfl, rfl⟩
        rw [List.length_append]
        simp
        omega
    · rename_i hp
      have hp : ¬ p < m - 1 := fun e => hp (decide_eq_true e)
      have ep : p = m - 1 := by omega
      subst ep
      rw [Ts_end] at ht
      have et' : t = [] := by
        cases hl : l.toNat with
        | zero => rw [hl] at ht; cases ht; rfl
        | succ k => rw [hl] at ht; simp at ht
      subst et'
      rw [List.append_nil] at et
      subst et
      simp only [wss, ws, wp.eq_1, wp.eq_2, wp.eq_3, wp.eq_4, wp.eq_5, wp.eq_6, wp.eq_7, wp.eq_8, wp.eq_9, wp.eq_10, wp.eq_11, wp.eq_12, wp.eq_13, wp.eq_14, wp.eq_15, wp.eq_16, wp.eq_17, wp.eq_18, wp.eq_19, wp.eq_20, wp.eq_22, wp.eq_23, wp.eq_24, wp.eq_25, wps, wpO, wpK, wpP, wpC, wpI, wpTg.eq_1, tg_tup, tg_fl, tg_cons, tg_nil, bodyPo, startD, shr_non, shr_bl, shr_int, shr_str, shr_ty, shr_tup, shr_lst, shr_fz, shr_dct, shr_loc, shr_fr, truth_bl, true_and, add_ii, sub_ii, mul_ii, fdiv_ii, mod_ii, pow_ii, lt_ii, le_ii, gt_ii, ge_ii, len_t, abs_i, int_i, int_b, Es.len, List.map_cons, List.map_nil, List.length_cons, List.length_nil, List.cons_append, List.nil_append, List.replicate_succ, List.replicate_zero, List.getElem?_cons_zero, List.getElem?_cons_succ, List.set_cons_zero, List.set_cons_succ, Option.some.injEq, exists_eq_left', Nat.zero_add, Nat.reduceAdd, Nat.reduceSub, eq_iff, ne_iff, ess_iff, nss_iff, max_iff, min_iff, isA_int, isA_bool, isA_tuple, isA_list, isA_str, okD_shr, ix0_2, ix1_2, ix0_3, ix1_3, ix2_3, ix0_1, decide_eq_true_eq, Bool.not_eq_true', Bool.not_eq_false', Bool.not_not, Bool.not_true, Bool.not_false, decide_eq_false_iff_not, List.cons.injEq, and_true, exists_and_left, exists_eq_left, exists_eq_right, D.int.injEq, if_true, if_false, Bool.false_eq_true, reduceCtorEq, ite_true, ite_false, D.tup.injEq, D.bl.injEq, D.str.injEq, Int.cast_ofNat_Int, Int.reduceEq, not_true_eq_false, not_false_eq_true, wipeD, List.foldr_cons, List.foldr_nil, add_tt, addll_iff, slt_iff, sll_iff, lstt_iff, lstl_iff, tupt_iff, tupl_iff, len_l, sizeLine_eq, Nat.reduceLeDiff]
      refine tuple_of (sq_loc atM) ?_
      exact ret_drop noIntsT q
  · have hb : ∀ n, v = .int n → n < 0 ∨ w m ps 0 ≤ n := fun n e => by
      by_cases h0 : 0 ≤ n
      · by_cases h1 : n < w m ps 0
        · exact absurd ⟨n, e, h0, h1⟩ hr
        · exact .inr (by omega)
      · exact .inl (by omega)
    have x := x hb
    refine ite_cut gm (b := true) ?_ ?_
    · simp only [wss, ws, wp.eq_1, wp.eq_2, wp.eq_3, wp.eq_4, wp.eq_5, wp.eq_6, wp.eq_7, wp.eq_8, wp.eq_9, wp.eq_10, wp.eq_11, wp.eq_12, wp.eq_13, wp.eq_14, wp.eq_15, wp.eq_16, wp.eq_17, wp.eq_18, wp.eq_19, wp.eq_20, wp.eq_22, wp.eq_23, wp.eq_24, wp.eq_25, wps, wpO, wpK, wpP, wpC, wpI, wpTg.eq_1, tg_tup, tg_fl, tg_cons, tg_nil, bodyPo, startD, shr_non, shr_bl, shr_int, shr_str, shr_ty, shr_tup, shr_lst, shr_fz, shr_dct, shr_loc, shr_fr, truth_bl, true_and, add_ii, sub_ii, mul_ii, fdiv_ii, mod_ii, pow_ii, lt_ii, le_ii, gt_ii, ge_ii, len_t, abs_i, int_i, int_b, Es.len, List.map_cons, List.map_nil, List.length_cons, List.length_nil, List.cons_append, List.nil_append, List.replicate_succ, List.replicate_zero, List.getElem?_cons_zero, List.getElem?_cons_succ, List.set_cons_zero, List.set_cons_succ, Option.some.injEq, exists_eq_left', Nat.zero_add, Nat.reduceAdd, Nat.reduceSub, eq_iff, ne_iff, ess_iff, nss_iff, max_iff, min_iff, isA_int, isA_bool, isA_tuple, isA_list, isA_str, okD_shr, ix0_2, ix1_2, ix0_3, ix1_3, ix2_3, ix0_1, decide_eq_true_eq, Bool.not_eq_true', Bool.not_eq_false', Bool.not_not, Bool.not_true, Bool.not_false, decide_eq_false_iff_not, List.cons.injEq, and_true, exists_and_left, exists_eq_left, exists_eq_right, D.int.injEq, if_true, if_false, Bool.false_eq_true, reduceCtorEq, ite_true, ite_false, D.tup.injEq, D.bl.injEq, D.str.injEq, Int.cast_ofNat_Int, Int.reduceEq, not_true_eq_false, not_false_eq_true, wipeD, List.foldr_cons, List.foldr_nil, add_tt, addll_iff, slt_iff, sll_iff, lstt_iff, lstl_iff, tupt_iff, tupl_iff, len_l, sizeLine_eq, Nat.reduceLeDiff, hi, sp_is_integer, okD_shr hv]
      refine ⟨hv, ?_⟩
      cases hvi : isInt v with
      | false => simp only [wss, ws, wp.eq_1, wp.eq_2, wp.eq_3, wp.eq_4, wp.eq_5, wp.eq_6, wp.eq_7, wp.eq_8, wp.eq_9, wp.eq_10, wp.eq_11, wp.eq_12, wp.eq_13, wp.eq_14, wp.eq_15, wp.eq_16, wp.eq_17, wp.eq_18, wp.eq_19, wp.eq_20, wp.eq_22, wp.eq_23, wp.eq_24, wp.eq_25, wps, wpO, wpK, wpP, wpC, wpI, wpTg.eq_1, tg_tup, tg_fl, tg_cons, tg_nil, bodyPo, startD, shr_non, shr_bl, shr_int, shr_str, shr_ty, shr_tup, shr_lst, shr_fz, shr_dct, shr_loc, shr_fr, truth_bl, true_and, add_ii, sub_ii, mul_ii, fdiv_ii, mod_ii, pow_ii, lt_ii, le_ii, gt_ii, ge_ii, len_t, abs_i, int_i, int_b, Es.len, List.map_cons, List.map_nil, List.length_cons, List.length_nil, List.cons_append, List.nil_append, List.replicate_succ, List.replicate_zero, List.getElem?_cons_zero, List.getElem?_cons_succ, List.set_cons_zero, List.set_cons_succ, Option.some.injEq, exists_eq_left', Nat.zero_add, Nat.reduceAdd, Nat.reduceSub, eq_iff, ne_iff, ess_iff, nss_iff, max_iff, min_iff, isA_int, isA_bool, isA_tuple, isA_list, isA_str, okD_shr, ix0_2, ix1_2, ix0_3, ix1_3, ix2_3, ix0_1, decide_eq_true_eq, Bool.not_eq_true', Bool.not_eq_false', Bool.not_not, Bool.not_true, Bool.not_false, decide_eq_false_iff_not, List.cons.injEq, and_true, exists_and_left, exists_eq_left, exists_eq_right, D.int.injEq, if_true, if_false, Bool.false_eq_true, reduceCtorEq, ite_true, ite_false, D.tup.injEq, D.bl.injEq, D.str.injEq, Int.cast_ofNat_Int, Int.reduceEq, not_true_eq_false, not_false_eq_true, wipeD, List.foldr_cons, List.foldr_nil, add_tt, addll_iff, slt_iff, sll_iff, lstt_iff, lstl_iff, tupt_iff, tupl_iff, len_l, sizeLine_eq, Nat.reduceLeDiff]
      | true =>
        obtain ⟨n, rfl⟩ := int_of hvi
        have hb := hb n rfl
        simp only [wss, ws, wp.eq_1, wp.eq_2, wp.eq_3, wp.eq_4, wp.eq_5, wp.eq_6, wp.eq_7, wp.eq_8, wp.eq_9, wp.eq_10, wp.eq_11, wp.eq_12, wp.eq_13, wp.eq_14, wp.eq_15, wp.eq_16, wp.eq_17, wp.eq_18, wp.eq_19, wp.eq_20, wp.eq_22, wp.eq_23, wp.eq_24, wp.eq_25, wps, wpO, wpK, wpP, wpC, wpI, wpTg.eq_1, tg_tup, tg_fl, tg_cons, tg_nil, bodyPo, startD, shr_non, shr_bl, shr_int, shr_str, shr_ty, shr_tup, shr_lst, shr_fz, shr_dct, shr_loc, shr_fr, truth_bl, true_and, add_ii, sub_ii, mul_ii, fdiv_ii, mod_ii, pow_ii, lt_ii, le_ii, gt_ii, ge_ii, len_t, abs_i, int_i, int_b, Es.len, List.map_cons, List.map_nil, List.length_cons, List.length_nil, List.cons_append, List.nil_append, List.replicate_succ, List.replicate_zero, List.getElem?_cons_zero, List.getElem?_cons_succ, List.set_cons_zero, List.set_cons_succ, Option.some.injEq, exists_eq_left', Nat.zero_add, Nat.reduceAdd, Nat.reduceSub, eq_iff, ne_iff, ess_iff, nss_iff, max_iff, min_iff, isA_int, isA_bool, isA_tuple, isA_list, isA_str, okD_shr, ix0_2, ix1_2, ix0_3, ix1_3, ix2_3, ix0_1, decide_eq_true_eq, Bool.not_eq_true', Bool.not_eq_false', Bool.not_not, Bool.not_true, Bool.not_false, decide_eq_false_iff_not, List.cons.injEq, and_true, exists_and_left, exists_eq_left, exists_eq_right, D.int.injEq, if_true, if_false, Bool.false_eq_true, reduceCtorEq, ite_true, ite_false, D.tup.injEq, D.bl.injEq, D.str.injEq, Int.cast_ofNat_Int, Int.reduceEq, not_true_eq_false, not_false_eq_true, wipeD, List.foldr_cons, List.foldr_nil, add_tt, addll_iff, slt_iff, sll_iff, lstt_iff, lstl_iff, tupt_iff, tupl_iff, len_l, sizeLine_eq, Nat.reduceLeDiff, ix_arr (b := 0) (by decide) (show 0 < m by omega) m24]
        split
        · omega
        · trivial
    rw [if_pos rfl]
    exact ⟨rfl, retx_same x⟩
end LK

set_option Elab.async false
set_option maxRecDepth 100000
set_option linter.all false
/-! Where one comes to along pairs. -/
namespace LK
open PySem L2 Lay RZ PyProof.Rows
inductive Reach (ps : List (Int × Int)) (p : Int) : Int → Prop
  | refl : Reach ps p p
  | step {a b : Int} : Reach ps p a → (a, b) ∈ ps → Reach ps p b
theorem Reach.le {ps : List (Int × Int)} {p x : Int} (u : ∀ q ∈ ps, q.1 < q.2) (h : Reach ps p x) : p ≤ x := by
  induction h with
  | refl => exact Int.le_refl _
  | step _ h2 ih => have := u _ h2; omega
theorem Reach.lt {ps : List (Int × Int)} {p x m : Int} (u : ∀ q ∈ ps, q.2 < m) (h : Reach ps p x) (hp : p < m) : x < m := by
  cases h with
  | refl => exact hp
  | step _ h2 => exact u _ h2
/-- rising lists with the same members are one -/
theorem rise_eq : ∀ {xs ys : List Int}, xs.Pairwise (· < ·) → ys.Pairwise (· < ·) → (∀ k, k ∈ xs ↔ k ∈ ys) → xs = ys
  | [], [], _, _, _ => rfl
  | [], y :: ys, _, _, h => absurd ((h y).mpr List.mem_cons_self) (by simp)
  | x :: xs, [], _, _, h => absurd ((h x).mp List.mem_cons_self) (by simp)
  | x :: xs, y :: ys, h1, h2, h => by
    rw [List.pairwise_cons] at h1 h2
    have e : x = y := by
      rcases List.mem_cons.mp ((h x).mp List.mem_cons_self) with e | e
      · exact e
      rcases List.mem_cons.mp ((h y).mpr List.mem_cons_self) with e' | e'
      · exact e'.symm
      have := h2.1 x e
      have := h1.1 y e'
      omega
    subst e
    congr 1
    refine rise_eq h1.2 h2.2 fun k => ?_
    have := h k
    simp only [List.mem_cons] at this
    constructor
    · intro hk
      rcases this.mp (.inr hk) with z | z
      · have := h1.1 k hk; omega
      · exact z
    · intro hk
      rcases this.mpr (.inr hk) with z | z
      · have := h2.1 k hk; omega
      · exact z
open Classical in
/-- the places that one comes to, below m -/
noncomputable def reL (m : Int) (ps : List (Int × Int)) (p : Int) : List Int := ((List.range m.toNat).map fun (i : Nat) => (i : Int)).filter fun k => decide (Reach ps p k)
open Classical in
theorem reL_mem {m : Int} {ps : List (Int × Int)} {p : Int} (u : ∀ q ∈ ps, 0 ≤ q.1 ∧ q.1 < q.2 ∧ q.2 < m) (h0 : 0 ≤ p) (h1 : p < m) {k : Int} : k ∈ reL m ps p ↔ Reach ps p k := by
  unfold reL
  rw [List.mem_filter, List.mem_map]
  constructor
  · exact fun h => of_decide_eq_true h.2
  · intro h
    have := h.le fun q hq => (u q hq).2.1
    have := h.lt (fun q hq => (u q hq).2.2) h1
    exact ⟨⟨k.toNat, by rw [List.mem_range]; omega, by omega⟩, decide_eq_true h⟩
theorem reL_rise {m : Int} {ps : List (Int × Int)} {p : Int} : (reL m ps p).Pairwise (· < ·) := by
  unfold reL
  refine List.Pairwise.filter _ ?_
  rw [List.pairwise_map]
  refine List.Pairwise.imp ?_ List.pairwise_lt_range
  intro a b h
  exact Int.ofNat_lt.mpr h
theorem reL_uniq {m : Int} {ps : List (Int × Int)} {p : Int} (u : ∀ q ∈ ps, 0 ≤ q.1 ∧ q.1 < q.2 ∧ q.2 < m) (h0 : 0 ≤ p) (h1 : p < m) {is : List Int} (hp : is.Pairwise (· < ·)) (h : ∀ k, k ∈ is ↔ Reach ps p k) : is = reL m ps p :=
  rise_eq hp reL_rise fun k => by rw [h k, reL_mem u h0 h1]
/-- pairs in rising order of the first: closed as they come -/
theorem Reach.back {ps : List (Int × Int)} {p b : Int} (h : Reach ps p b) (hb : b ≠ p) : ∃ a, Reach ps p a ∧ (a, b) ∈ ps := by
  cases h with
  | refl => exact absurd rfl hb
  | step h1 h2 => exact ⟨_, h1, h2⟩
theorem in_ints {x : Int} {y : D} {M : Mem} {gs : List Int} {Q : Bool → Prop} (h : lsOf M y = some (gs.map .int)) (q : Q (decide (x ∈ gs))) : opC .isin (.int x) y M Q := by
  have py : Pys M (gs.map D.int) (gs.map PyData.int) := by
    clear h q
    induction gs with
    | nil => exact .nil
    | cons g gs ih => exact .cons (.int g) ih
  have shp : SeqAt.shaped (.list (gs.map PyData.int)) = true := by
    have h1 : PyData.canLayAll0 (gs.map PyData.int) = true := by
      clear h q py; induction gs with
      | nil => rfl
      | cons g gs ih => simp [PyData.canLayAll0, PyData.canLay0, ih]
    have h2 : PyData.depthAll (gs.map PyData.int) = 0 := by
      clear h q py h1; induction gs with
      | nil => rfl
      | cons g gs ih => simp [PyData.depthAll, PyData.depth, ih]
    simp [SeqAt.shaped, PyData.canLay0, PyData.depth, h1, h2]
  have e : ((gs.map PyData.int).any fun z => PyData.eqv z (.int x)) = decide (x ∈ gs) := by
    clear h q py shp
    induction gs with
    | nil => rfl
    | cons g gs ih =>
      rw [List.map_cons, List.any_cons, ih, eqv_ii]
      by_cases hg : g = x <;> by_cases hm : x ∈ gs <;> simp [hg, hm, eq_comm]
      all_goals (intro hh; exact absurd hh.symm hg)
  exact .inr (.inl ⟨_, _, _, h, .int x, py, shp_i, shp, by rw [e]; exact q⟩)
theorem ni_ints {x : Int} {y : D} {M : Mem} {gs : List Int} {Q : Bool → Prop} (h : lsOf M y = some (gs.map .int)) (q : Q (!decide (x ∈ gs))) : opC .notin (.int x) y M Q :=
  in_ints (Q := fun b => Q (!b)) h q
theorem in_dct {x : Int} {y : D} {M : Mem} {ks : List (Key × D)} {Q : Bool → Prop} (h : dcOf M y = some ks) (q : Q (lookK ks (.inl x)).isSome) : opC .isin (.int x) y M Q :=
  .inr (.inr (.inl ⟨ks, .inl x, h, rfl, q⟩))
theorem look_put {ks : List (Key × D)} {k j : Key} {d : D} : (lookK (putK' ks k d) j).isSome = (decide (j = k) || (lookK ks j).isSome) := by
  unfold putK' lookK
  rw [Option.isSome_map, Option.isSome_map]
  split
  · rename_i h
    rw [List.find?_map, Option.isSome_map]
    by_cases e : j = k
    · subst e
      rw [decide_eq_true rfl, Bool.true_or, List.find?_isSome]
      obtain ⟨p, hp, e⟩ := List.any_eq_true.mp h
      refine ⟨p, hp, ?_⟩
      have e := of_decide_eq_true e
      simp [e]
    · rw [decide_eq_false e, Bool.false_or]
      congr 2
      funext p
      show decide ((if p.1 = k then (p.1, d) else p).1 = j) = decide (p.1 = j)
      split <;> rfl
  · rw [List.find?_append, Option.isSome_or]
    by_cases e : j = k
    · subst e; simp
    · have : ¬ k = j := fun z => e z.symm
      simp [e, this]
end LK

set_option Elab.async false
set_option maxRecDepth 100000
set_option linter.all false
namespace LK
open PySem L2 Lay RZ PyProof.Rows
def sp_places : SD := fun ds M _ Q => ∃ (m : Int) (ps : List (Int × Int)) (p : Int), ds = [netD m ps, .int p] ∧ ps.length ≤ 60 ∧ Up m ps ∧ ∀ ks : List (Key × D), (∀ x : Int, (lookK ks (.inl x)).isSome = true ↔ Reach ps p x) → Q (.fr (.dct ks)) M
theorem pr_tupI {ps : List (Int × Int)} : ps.map pr = (ps.map fun p => [p.1, p.2]).map tupI := by
  rw [List.map_map]
  exact List.map_congr_left fun p _ => rfl
theorem unp {ts : List (List Int)} {ps : List (Int × Int)} (h : ts.Perm (ps.map fun p => [p.1, p.2])) : ∃ qs : List (Int × Int), ts = (qs.map fun p => [p.1, p.2]) ∧ qs.Perm ps := by
  refine ⟨ts.map fun t => (t.headD 0, (t.drop 1).headD 0), ?_, ?_⟩
  · rw [List.map_map]
    have : ts.map (id) = ts.map ((fun p : Int × Int => [p.1, p.2]) ∘ fun t => (t.headD 0, (t.drop 1).headD 0)) := List.map_congr_left fun t ht => by
      obtain ⟨p, _, rfl⟩ := List.mem_map.mp (h.mem_iff.mp ht)
      rfl
    rw [← this, List.map_id]
  · have := h.map fun t => (t.headD 0, (t.drop 1).headD 0)
    rw [List.map_map] at this
    have e : ps.map ((fun t : List Int => (t.headD 0, (t.drop 1).headD 0)) ∘ fun p => [p.1, p.2]) = ps.map id := List.map_congr_left fun p _ => rfl
    rwa [e, List.map_id] at this
/-- closed as they come -/
theorem close {ps qs : List (Int × Int)} {p m : Int} (u : Up m ps) (hp : qs.Perm ps) {S : Int → Prop} (h0 : S p) (hc : ∀ a b, (a, b) ∈ qs → S a → S b) (hs : ∀ x, S x → Reach ps p x) : ∀ x, S x ↔ Reach ps p x := fun x => ⟨hs x, fun h => by
  induction h with
  | refl => exact h0
  | step _ h2 ih => exact hc _ _ (hp.mem_iff.mpr h2) ih⟩
theorem rd_of (Γ : Gam) : True := trivial
theorem w_places_from (Γ : Gam) (gm : GMono Γ) (ds : List D) (M : Mem) (X : XP) (Q : Kd) (hl : ds.length = sig_places_from.ps.length) (h : sp_places ds M X Q) : wss Γ ir_places_from (bodyPo M X Q) (startD cc_places_from.N ds) M := by
  obtain ⟨m, ps, p, rfl, hz, u, q⟩ := h
  unfold ir_places_from cc_places_from
  have hsz : sizeLine = 16777216 := sizeLine_eq
  refine asg_cut gm (R := fun d M1 => d = .loc M.length ∧ M1 = M ++ [.dic [(.inl p, .bl true)]]) ?_ ?_
  · simp only [wss, ws, wp.eq_1, wp.eq_2, wp.eq_3, wp.eq_4, wp.eq_5, wp.eq_6, wp.eq_7, wp.eq_8, wp.eq_9, wp.eq_10, wp.eq_11, wp.eq_12, wp.eq_13, wp.eq_14, wp.eq_15, wp.eq_16, wp.eq_17, wp.eq_18, wp.eq_19, wp.eq_20, wp.eq_22, wp.eq_23, wp.eq_24, wp.eq_25, wps, wpO, wpK, wpP, wpC, wpI, wpTg.eq_1, tg_tup, tg_fl, tg_cons, tg_nil, bodyPo, startD, shr_non, shr_bl, shr_int, shr_str, shr_ty, shr_tup, shr_lst, shr_fz, shr_dct, shr_loc, shr_fr, truth_bl, true_and, add_ii, sub_ii, mul_ii, fdiv_ii, mod_ii, pow_ii, lt_ii, le_ii, gt_ii, ge_ii, len_t, abs_i, int_i, int_b, Es.len, List.map_cons, List.map_nil, List.length_cons, List.length_nil, List.cons_append, List.nil_append, List.replicate_succ, List.replicate_zero, List.getElem?_cons_zero, List.getElem?_cons_succ, List.set_cons_zero, List.set_cons_succ, Option.some.injEq, exists_eq_left', Nat.zero_add, Nat.reduceAdd, Nat.reduceSub, eq_iff, ne_iff, ess_iff, nss_iff, max_iff, min_iff, isA_int, isA_bool, isA_tuple, isA_list, isA_str, okD_shr, ix0_2, ix1_2, ix0_3, ix1_3, ix2_3, ix0_1, decide_eq_true_eq, Bool.not_eq_true', Bool.not_eq_false', Bool.not_not, Bool.not_true, Bool.not_false, decide_eq_false_iff_not, List.cons.injEq, and_true, exists_and_left, exists_eq_left, exists_eq_right, D.int.injEq, if_true, if_false, Bool.false_eq_true, reduceCtorEq, ite_true, ite_false, D.tup.injEq, D.bl.injEq, D.str.injEq, Int.cast_ofNat_Int, Int.reduceEq, not_true_eq_false, not_false_eq_true, wipeD, List.foldr_cons, List.foldr_nil, add_tt, addll_iff, slt_iff, sll_iff, lstt_iff, lstl_iff, tupt_iff, tupl_iff, len_l, sizeLine_eq, Nat.reduceLeDiff]
    refine ⟨.inl p, rfl, atM, .inr (.inr ⟨(fun e z => nomatch z), ?_⟩)⟩
    rw [setM]; rfl
  rintro d M1 ⟨rfl, rfl⟩
  simp only [startD, wpTg.eq_1, tg_tup, tg_fl, tg_cons, tg_nil, shr_non, shr_bl, shr_int, shr_str, shr_ty, shr_tup, shr_lst, shr_fz, shr_dct, shr_loc, shr_fr, List.map_cons, List.map_nil, List.length_cons, List.length_nil, List.cons_append, List.nil_append, List.replicate_succ, List.replicate_zero, List.set_cons_zero, List.set_cons_succ, Nat.zero_add, Nat.reduceAdd, Nat.reduceSub]
  refine for_any gm (R := fun xs gd M1 => gd = [] ∧ M1 = M ++ [.dic [(.inl p, .bl true)]] ∧ ∃ qs : List (Int × Int), xs = qs.map pr ∧ qs.Perm ps ∧ qs.Pairwise fun a b => a.1 ≤ b.1) ?_ ?_
  · simp only [wss, ws, wp.eq_1, wp.eq_2, wp.eq_3, wp.eq_4, wp.eq_5, wp.eq_6, wp.eq_7, wp.eq_8, wp.eq_9, wp.eq_10, wp.eq_11, wp.eq_12, wp.eq_13, wp.eq_14, wp.eq_15, wp.eq_16, wp.eq_17, wp.eq_18, wp.eq_19, wp.eq_20, wp.eq_22, wp.eq_23, wp.eq_24, wp.eq_25, wps, wpO, wpK, wpP, wpC, wpI, wpTg.eq_1, tg_tup, tg_fl, tg_cons, tg_nil, bodyPo, startD, shr_non, shr_bl, shr_int, shr_str, shr_ty, shr_tup, shr_lst, shr_fz, shr_dct, shr_loc, shr_fr, truth_bl, true_and, add_ii, sub_ii, mul_ii, fdiv_ii, mod_ii, pow_ii, lt_ii, le_ii, gt_ii, ge_ii, len_t, abs_i, int_i, int_b, Es.len, List.map_cons, List.map_nil, List.length_cons, List.length_nil, List.cons_append, List.nil_append, List.replicate_succ, List.replicate_zero, List.getElem?_cons_zero, List.getElem?_cons_succ, List.set_cons_zero, List.set_cons_succ, Option.some.injEq, exists_eq_left', Nat.zero_add, Nat.reduceAdd, Nat.reduceSub, eq_iff, ne_iff, ess_iff, nss_iff, max_iff, min_iff, isA_int, isA_bool, isA_tuple, isA_list, isA_str, okD_shr, ix0_2, ix1_2, ix0_3, ix1_3, ix2_3, ix0_1, decide_eq_true_eq, Bool.not_eq_true', Bool.not_eq_false', Bool.not_not, Bool.not_true, Bool.not_false, decide_eq_false_iff_not, List.cons.injEq, and_true, exists_and_left, exists_eq_left, exists_eq_right, D.int.injEq, if_true, if_false, Bool.false_eq_true, reduceCtorEq, ite_true, ite_false, D.tup.injEq, D.bl.injEq, D.str.injEq, Int.cast_ofNat_Int, Int.reduceEq, not_true_eq_false, not_false_eq_true, wipeD, List.foldr_cons, List.foldr_nil, add_tt, addll_iff, slt_iff, sll_iff, lstt_iff, lstl_iff, tupt_iff, tupl_iff, len_l, sizeLine_eq, Nat.reduceLeDiff, netD]
    refine .inr ⟨_, ps.map fun p => [p.1, p.2], rfl, ?_, ?_, ?_⟩
    · show some (ps.map pr) = _
      rw [pr_tupI]
    · intro t ht
      obtain ⟨p, _, rfl⟩ := List.mem_map.mp ht
      exact List.cons_ne_nil _ _
    · intro ts hp hs
      obtain ⟨qs, rfl, hq⟩ := unp hp
      refine it_l ⟨rfl, rfl, qs, pr_tupI.symm, hq, ?_⟩
      rw [List.pairwise_map] at hs
      refine List.Pairwise.imp ?_ hs
      intro a b hab
      simp only [ltL] at hab
      by_cases e : b.1 = a.1
      · omega
      · rw [if_neg e] at hab
        have := of_decide_eq_false hab
        omega
  rintro xs gd M1 ⟨rfl, rfl, qs, rfl, hqp, hqs⟩
  have uq : ∀ a b, (a, b) ∈ qs → a < b := fun a b hab => (u _ (hqp.mem_iff.mp hab)).2.1
  have hql : qs.length ≤ 60 := by rw [hqp.length_eq]; exact hz
  refine ⟨rfl, fun i σ M' => ∃ (ks : List (Key × D)) (c3 c4 : Option D), M' = M ++ [.dic ks] ∧ ks.length ≤ i + 1 ∧ noLock ks = true ∧ (lookK ks (.inl p)).isSome = true ∧ (∀ x, (lookK ks (.inl x)).isSome = true → Reach ps p x) ∧
    (∀ a b, (a, b) ∈ qs.take i → (lookK ks (.inl a)).isSome = true → (lookK ks (.inl b)).isSome = true) ∧ σ = [some (netD m ps), some (.int p), some (.loc M.length), c3, c4], ?_, ?_, ?_⟩
  · refine ⟨[(.inl p, .bl true)], _, _, rfl, Nat.le_refl _, rfl, by simp [lookK], fun x hx => ?_, fun a b hab => by simp at hab, rfl⟩
    by_cases e : p = x
    · subst e; exact .refl
    · simp [lookK, e] at hx
  · rintro σ M' ⟨ks, c3, c4, rfl, hk, hn, h0, hr, hc, rfl⟩
    rw [List.length_map, List.take_length] at hc
    simp only [wss, ws, wp.eq_1, wp.eq_2, wp.eq_3, wp.eq_4, wp.eq_5, wp.eq_6, wp.eq_7, wp.eq_8, wp.eq_9, wp.eq_10, wp.eq_11, wp.eq_12, wp.eq_13, wp.eq_14, wp.eq_15, wp.eq_16, wp.eq_17, wp.eq_18, wp.eq_19, wp.eq_20, wp.eq_22, wp.eq_23, wp.eq_24, wp.eq_25, wps, wpO, wpK, wpP, wpC, wpI, wpTg.eq_1, tg_tup, tg_fl, tg_cons, tg_nil, bodyPo, startD, shr_non, shr_bl, shr_int, shr_str, shr_ty, shr_tup, shr_lst, shr_fz, shr_dct, shr_loc, shr_fr, truth_bl, true_and, add_ii, sub_ii, mul_ii, fdiv_ii, mod_ii, pow_ii, lt_ii, le_ii, gt_ii, ge_ii, len_t, abs_i, int_i, int_b, Es.len, List.map_cons, List.map_nil, List.length_cons, List.length_nil, List.cons_append, List.nil_append, List.replicate_succ, List.replicate_zero, List.getElem?_cons_zero, List.getElem?_cons_succ, List.set_cons_zero, List.set_cons_succ, Option.some.injEq, exists_eq_left', Nat.zero_add, Nat.reduceAdd, Nat.reduceSub, eq_iff, ne_iff, ess_iff, nss_iff, max_iff, min_iff, isA_int, isA_bool, isA_tuple, isA_list, isA_str, okD_shr, ix0_2, ix1_2, ix0_3, ix1_3, ix2_3, ix0_1, decide_eq_true_eq, Bool.not_eq_true', Bool.not_eq_false', Bool.not_not, Bool.not_true, Bool.not_false, decide_eq_false_iff_not, List.cons.injEq, and_true, exists_and_left, exists_eq_left, exists_eq_right, D.int.injEq, if_true, if_false, Bool.false_eq_true, reduceCtorEq, ite_true, ite_false, D.tup.injEq, D.bl.injEq, D.str.injEq, Int.cast_ofNat_Int, Int.reduceEq, not_true_eq_false, not_false_eq_true, wipeD, List.foldr_cons, List.foldr_nil, add_tt, addll_iff, slt_iff, sll_iff, lstt_iff, lstl_iff, tupt_iff, tupl_iff, len_l, sizeLine_eq, Nat.reduceLeDiff]
    have fin := q ks (close u hqp (S := fun x => (lookK ks (.inl x)).isSome = true) h0 hc hr)
    exact ⟨M, [.dic ks], rfl, kept_app, .inr (.inr (.inr ⟨_, ks, ks, rfl, Nat.le_refl _, atM, Fzk.self _ hn, fin⟩))⟩
  · rintro i x σ M' hx ⟨ks, c3, c4, rfl, hk, hn, h0, hr, hc, rfl⟩
    rw [List.getElem?_map] at hx
    obtain ⟨⟨a, b⟩, hq, rfl⟩ : ∃ q : Int × Int, qs[i]? = some q ∧ x = pr q := by
      cases hq : qs[i]? with
      | none => rw [hq] at hx; cases hx
      | some q => rw [hq] at hx; cases hx; exact ⟨q, rfl, rfl⟩
    have hil := (List.getElem?_eq_some_iff.mp hq).1
    have hmem : (a, b) ∈ qs := List.mem_of_getElem? hq
    have htk : qs.take (i + 1) = qs.take i ++ [(a, b)] := by rw [List.take_succ, hq]; rfl
    -- those ahead of it lead no further than its foot
    have ahead : ∀ c e, (c, e) ∈ qs.take i → c ≤ a := fun c e hce => by
      obtain ⟨j, hj⟩ := List.mem_iff_getElem?.mp hce
      have hji : j < i := by
        have := (List.getElem?_eq_some_iff.mp hj).1
        rw [List.length_take] at this; omega
      rw [List.getElem?_take_of_lt hji] at hj
      have hjl := (List.getElem?_eq_some_iff.mp hj).1
      have := List.pairwise_iff_getElem.mp hqs j i hjl hil hji
      rw [(List.getElem?_eq_some_iff.mp hj).2, (List.getElem?_eq_some_iff.mp hq).2] at this
      exact this
    simp only [pr]
    simp only [startD, wpTg.eq_1, tg_tup, tg_fl, tg_cons, tg_nil, shr_non, shr_bl, shr_int, shr_str, shr_ty, shr_tup, shr_lst, shr_fz, shr_dct, shr_loc, shr_fr, List.map_cons, List.map_nil, List.length_cons, List.length_nil, List.cons_append, List.nil_append, List.replicate_succ, List.replicate_zero, List.set_cons_zero, List.set_cons_succ, Nat.zero_add, Nat.reduceAdd, Nat.reduceSub]
    simp only [wss, ws, wp.eq_1, wp.eq_2, wp.eq_3, wp.eq_4, wp.eq_5, wp.eq_6, wp.eq_7, wp.eq_8, wp.eq_9, wp.eq_10, wp.eq_11, wp.eq_12, wp.eq_13, wp.eq_14, wp.eq_15, wp.eq_16, wp.eq_17, wp.eq_18, wp.eq_19, wp.eq_20, wp.eq_22, wp.eq_23, wp.eq_24, wp.eq_25, wps, wpO, wpK, wpP, wpC, wpI, wpTg.eq_1, tg_tup, tg_fl, tg_cons, tg_nil, bodyPo, startD, shr_non, shr_bl, shr_int, shr_str, shr_ty, shr_tup, shr_lst, shr_fz, shr_dct, shr_loc, shr_fr, truth_bl, true_and, add_ii, sub_ii, mul_ii, fdiv_ii, mod_ii, pow_ii, lt_ii, le_ii, gt_ii, ge_ii, len_t, abs_i, int_i, int_b, Es.len, List.map_cons, List.map_nil, List.length_cons, List.length_nil, List.cons_append, List.nil_append, List.replicate_succ, List.replicate_zero, List.getElem?_cons_zero, List.getElem?_cons_succ, List.set_cons_zero, List.set_cons_succ, Option.some.injEq, exists_eq_left', Nat.zero_add, Nat.reduceAdd, Nat.reduceSub, eq_iff, ne_iff, ess_iff, nss_iff, max_iff, min_iff, isA_int, isA_bool, isA_tuple, isA_list, isA_str, okD_shr, ix0_2, ix1_2, ix0_3, ix1_3, ix2_3, ix0_1, decide_eq_true_eq, Bool.not_eq_true', Bool.not_eq_false', Bool.not_not, Bool.not_true, Bool.not_false, decide_eq_false_iff_not, List.cons.injEq, and_true, exists_and_left, exists_eq_left, exists_eq_right, D.int.injEq, if_true, if_false, Bool.false_eq_true, reduceCtorEq, ite_true, ite_false, D.tup.injEq, D.bl.injEq, D.str.injEq, Int.cast_ofNat_Int, Int.reduceEq, not_true_eq_false, not_false_eq_true, wipeD, List.foldr_cons, List.foldr_nil, add_tt, addll_iff, slt_iff, sll_iff, lstt_iff, lstl_iff, tupt_iff, tupl_iff, len_l, sizeLine_eq, Nat.reduceLeDiff]
    refine in_dct (ks := ks) (by show (match (M ++ [Cell.dic ks])[M.length]? with | some (.dic xs) => some xs | _ => none) = _; rw [atM]) ?_
    split
    · rename_i ha
      refine put_dic (n := M.length) (kk := .inl b) (ks := ks) atM rfl (by omega) ?_
      rw [setM]
      refine ⟨_, rfl, Nat.le_trans (putK'_len _ _ _) (by omega), ?_, ?_, fun x hx => ?_, fun c e hce hcl => ?_, _, rfl⟩
      · unfold putK'
        have g : ∀ ks : List (Key × D), noLock ks = true → noLock (ks.map fun p => if p.1 = .inl b then (p.1, D.bl true) else p) = true := by
          intro ks; induction ks with
          | nil => exact fun h => h
          | cons p ks ih =>
            obtain ⟨j, d⟩ := p
            intro h
            simp only [noLock, Bool.and_eq_true] at h
            simp only [List.map_cons]
            split <;> simp [noLock, h.1, ih h.2, noLoc]
        have g2 : ∀ ks : List (Key × D), noLock ks = true → noLock (ks ++ [(.inl b, D.bl true)]) = true := by
          intro ks; induction ks with
          | nil => exact fun _ => rfl
          | cons p ks ih =>
            obtain ⟨j, d⟩ := p
            intro h
            simp only [noLock, Bool.and_eq_true] at h
            simp [noLock, h.1, ih h.2]
        split
        · exact g ks hn
        · exact g2 ks hn
      · rw [look_put, h0, Bool.or_true]
      · rw [look_put] at hx
        rcases Bool.or_eq_true _ _ ▸ hx with hx | hx
        · have : x = b := by simpa using of_decide_eq_true hx
          subst this
          exact .step (hr a ha) (hqp.mem_iff.mp hmem)
        · exact hr x hx
      · rw [look_put] at hcl ⊢
        rw [htk] at hce
        have hne : ∀ z, z ≤ a → z ≠ b := fun z hz e => by have := uq a b hmem; omega
        rcases List.mem_append.mp hce with hce | hce
        · have h1 := ahead c e hce
          rw [decide_eq_false (by intro w; exact hne c h1 (Sum.inl.inj w)), Bool.false_or] at hcl
          rw [hc c e hce hcl, Bool.or_true]
        · cases List.mem_singleton.mp hce
          rw [decide_eq_true rfl, Bool.true_or]
    · rename_i ha
      refine ⟨ks, rfl, by omega, hn, h0, hr, fun c e hce hcl => ?_, _, rfl⟩
      rw [htk] at hce
      rcases List.mem_append.mp hce with hce | hce
      · exact hc c e hce hcl
      · cases List.mem_singleton.mp hce
        exact absurd hcl ha
def sp_leads : SD := fun ds M _ Q => ∃ (m : Int) (ps : List (Int × Int)) (a b : Int) (p q : Int × Int), ds = [netD m ps, .int a, .int b] ∧ ps.length ≤ 60 ∧ Up m ps ∧ 0 ≤ a ∧ 0 ≤ b ∧ ps[a.toNat]? = some p ∧ ps[b.toNat]? = some q ∧
  ∀ t : Bool, (t = true ↔ Reach ps p.2 q.1) → Q (.bl t) M
theorem w_leads (Γ : Gam) (gm : GMono Γ) (hp : Γ "places_from" = sp_places) (ds : List D) (M : Mem) (X : XP) (Q : Kd) (hl : ds.length = sig_leads.ps.length) (h : sp_leads ds M X Q) : wss Γ ir_leads (bodyPo M X Q) (startD cc_leads.N ds) M := by
  obtain ⟨m, ps, a, b, p, q, rfl, hz, u, a0, b0, ha, hb, k⟩ := h
  unfold ir_leads cc_leads
  simp only [wss, ws, wp.eq_1, wp.eq_2, wp.eq_3, wp.eq_4, wp.eq_5, wp.eq_6, wp.eq_7, wp.eq_8, wp.eq_9, wp.eq_10, wp.eq_11, wp.eq_12, wp.eq_13, wp.eq_14, wp.eq_15, wp.eq_16, wp.eq_17, wp.eq_18, wp.eq_19, wp.eq_20, wp.eq_22, wp.eq_23, wp.eq_24, wp.eq_25, wps, wpO, wpK, wpP, wpC, wpI, wpTg.eq_1, tg_tup, tg_fl, tg_cons, tg_nil, bodyPo, startD, shr_non, shr_bl, shr_int, shr_str, shr_ty, shr_tup, shr_lst, shr_fz, shr_dct, shr_loc, shr_fr, truth_bl, true_and, add_ii, sub_ii, mul_ii, fdiv_ii, mod_ii, pow_ii, lt_ii, le_ii, gt_ii, ge_ii, len_t, abs_i, int_i, int_b, Es.len, List.map_cons, List.map_nil, List.length_cons, List.length_nil, List.cons_append, List.nil_append, List.replicate_succ, List.replicate_zero, List.getElem?_cons_zero, List.getElem?_cons_succ, List.set_cons_zero, List.set_cons_succ, Option.some.injEq, exists_eq_left', Nat.zero_add, Nat.reduceAdd, Nat.reduceSub, eq_iff, ne_iff, ess_iff, nss_iff, max_iff, min_iff, isA_int, isA_bool, isA_tuple, isA_list, isA_str, okD_shr, ix0_2, ix1_2, ix0_3, ix1_3, ix2_3, ix0_1, decide_eq_true_eq, Bool.not_eq_true', Bool.not_eq_false', Bool.not_not, Bool.not_true, Bool.not_false, decide_eq_false_iff_not, List.cons.injEq, and_true, exists_and_left, exists_eq_left, exists_eq_right, D.int.injEq, if_true, if_false, Bool.false_eq_true, reduceCtorEq, ite_true, ite_false, D.tup.injEq, D.bl.injEq, D.str.injEq, Int.cast_ofNat_Int, Int.reduceEq, not_true_eq_false, not_false_eq_true, wipeD, List.foldr_cons, List.foldr_nil, add_tt, addll_iff, slt_iff, sll_iff, lstt_iff, lstl_iff, tupt_iff, tupl_iff, len_l, sizeLine_eq, Nat.reduceLeDiff, netD]
  refine (ix_ps b0 hb (by omega)).mpr ?_
  simp only [wss, ws, wp.eq_1, wp.eq_2, wp.eq_3, wp.eq_4, wp.eq_5, wp.eq_6, wp.eq_7, wp.eq_8, wp.eq_9, wp.eq_10, wp.eq_11, wp.eq_12, wp.eq_13, wp.eq_14, wp.eq_15, wp.eq_16, wp.eq_17, wp.eq_18, wp.eq_19, wp.eq_20, wp.eq_22, wp.eq_23, wp.eq_24, wp.eq_25, wps, wpO, wpK, wpP, wpC, wpI, wpTg.eq_1, tg_tup, tg_fl, tg_cons, tg_nil, bodyPo, startD, shr_non, shr_bl, shr_int, shr_str, shr_ty, shr_tup, shr_lst, shr_fz, shr_dct, shr_loc, shr_fr, truth_bl, true_and, add_ii, sub_ii, mul_ii, fdiv_ii, mod_ii, pow_ii, lt_ii, le_ii, gt_ii, ge_ii, len_t, abs_i, int_i, int_b, Es.len, List.map_cons, List.map_nil, List.length_cons, List.length_nil, List.cons_append, List.nil_append, List.replicate_succ, List.replicate_zero, List.getElem?_cons_zero, List.getElem?_cons_succ, List.set_cons_zero, List.set_cons_succ, Option.some.injEq, exists_eq_left', Nat.zero_add, Nat.reduceAdd, Nat.reduceSub, eq_iff, ne_iff, ess_iff, nss_iff, max_iff, min_iff, isA_int, isA_bool, isA_tuple, isA_list, isA_str, okD_shr, ix0_2, ix1_2, ix0_3, ix1_3, ix2_3, ix0_1, decide_eq_true_eq, Bool.not_eq_true', Bool.not_eq_false', Bool.not_not, Bool.not_true, Bool.not_false, decide_eq_false_iff_not, List.cons.injEq, and_true, exists_and_left, exists_eq_left, exists_eq_right, D.int.injEq, if_true, if_false, Bool.false_eq_true, reduceCtorEq, ite_true, ite_false, D.tup.injEq, D.bl.injEq, D.str.injEq, Int.cast_ofNat_Int, Int.reduceEq, not_true_eq_false, not_false_eq_true, wipeD, List.foldr_cons, List.foldr_nil, add_tt, addll_iff, slt_iff, sll_iff, lstt_iff, lstl_iff, tupt_iff, tupl_iff, len_l, sizeLine_eq, Nat.reduceLeDiff]
  refine (ix_ps a0 ha (by omega)).mpr ?_
  simp only [wss, ws, wp.eq_1, wp.eq_2, wp.eq_3, wp.eq_4, wp.eq_5, wp.eq_6, wp.eq_7, wp.eq_8, wp.eq_9, wp.eq_10, wp.eq_11, wp.eq_12, wp.eq_13, wp.eq_14, wp.eq_15, wp.eq_16, wp.eq_17, wp.eq_18, wp.eq_19, wp.eq_20, wp.eq_22, wp.eq_23, wp.eq_24, wp.eq_25, wps, wpO, wpK, wpP, wpC, wpI, wpTg.eq_1, tg_tup, tg_fl, tg_cons, tg_nil, bodyPo, startD, shr_non, shr_bl, shr_int, shr_str, shr_ty, shr_tup, shr_lst, shr_fz, shr_dct, shr_loc, shr_fr, truth_bl, true_and, add_ii, sub_ii, mul_ii, fdiv_ii, mod_ii, pow_ii, lt_ii, le_ii, gt_ii, ge_ii, len_t, abs_i, int_i, int_b, Es.len, List.map_cons, List.map_nil, List.length_cons, List.length_nil, List.cons_append, List.nil_append, List.replicate_succ, List.replicate_zero, List.getElem?_cons_zero, List.getElem?_cons_succ, List.set_cons_zero, List.set_cons_succ, Option.some.injEq, exists_eq_left', Nat.zero_add, Nat.reduceAdd, Nat.reduceSub, eq_iff, ne_iff, ess_iff, nss_iff, max_iff, min_iff, isA_int, isA_bool, isA_tuple, isA_list, isA_str, okD_shr, ix0_2, ix1_2, ix0_3, ix1_3, ix2_3, ix0_1, decide_eq_true_eq, Bool.not_eq_true', Bool.not_eq_false', Bool.not_not, Bool.not_true, Bool.not_false, decide_eq_false_iff_not, List.cons.injEq, and_true, exists_and_left, exists_eq_left, exists_eq_right, D.int.injEq, if_true, if_false, Bool.false_eq_true, reduceCtorEq, ite_true, ite_false, D.tup.injEq, D.bl.injEq, D.str.injEq, Int.cast_ofNat_Int, Int.reduceEq, not_true_eq_false, not_false_eq_true, wipeD, List.foldr_cons, List.foldr_nil, add_tt, addll_iff, slt_iff, sll_iff, lstt_iff, lstl_iff, tupt_iff, tupl_iff, len_l, sizeLine_eq, Nat.reduceLeDiff, hp]
  refine ⟨m, ps, p.2, rfl, hz, u, fun ks hk => ?_⟩
  simp only [wss, ws, wp.eq_1, wp.eq_2, wp.eq_3, wp.eq_4, wp.eq_5, wp.eq_6, wp.eq_7, wp.eq_8, wp.eq_9, wp.eq_10, wp.eq_11, wp.eq_12, wp.eq_13, wp.eq_14, wp.eq_15, wp.eq_16, wp.eq_17, wp.eq_18, wp.eq_19, wp.eq_20, wp.eq_22, wp.eq_23, wp.eq_24, wp.eq_25, wps, wpO, wpK, wpP, wpC, wpI, wpTg.eq_1, tg_tup, tg_fl, tg_cons, tg_nil, bodyPo, startD, shr_non, shr_bl, shr_int, shr_str, shr_ty, shr_tup, shr_lst, shr_fz, shr_dct, shr_loc, shr_fr, truth_bl, true_and, add_ii, sub_ii, mul_ii, fdiv_ii, mod_ii, pow_ii, lt_ii, le_ii, gt_ii, ge_ii, len_t, abs_i, int_i, int_b, Es.len, List.map_cons, List.map_nil, List.length_cons, List.length_nil, List.cons_append, List.nil_append, List.replicate_succ, List.replicate_zero, List.getElem?_cons_zero, List.getElem?_cons_succ, List.set_cons_zero, List.set_cons_succ, Option.some.injEq, exists_eq_left', Nat.zero_add, Nat.reduceAdd, Nat.reduceSub, eq_iff, ne_iff, ess_iff, nss_iff, max_iff, min_iff, isA_int, isA_bool, isA_tuple, isA_list, isA_str, okD_shr, ix0_2, ix1_2, ix0_3, ix1_3, ix2_3, ix0_1, decide_eq_true_eq, Bool.not_eq_true', Bool.not_eq_false', Bool.not_not, Bool.not_true, Bool.not_false, decide_eq_false_iff_not, List.cons.injEq, and_true, exists_and_left, exists_eq_left, exists_eq_right, D.int.injEq, if_true, if_false, Bool.false_eq_true, reduceCtorEq, ite_true, ite_false, D.tup.injEq, D.bl.injEq, D.str.injEq, Int.cast_ofNat_Int, Int.reduceEq, not_true_eq_false, not_false_eq_true, wipeD, List.foldr_cons, List.foldr_nil, add_tt, addll_iff, slt_iff, sll_iff, lstt_iff, lstl_iff, tupt_iff, tupl_iff, len_l, sizeLine_eq, Nat.reduceLeDiff]
  refine in_dct (ks := ks) rfl ?_
  exact ret_same rfl (k _ (hk q.1))
end LK

set_option Elab.async false
set_option maxRecDepth 100000
set_option linter.all false
namespace LK
open PySem L2 Lay RZ PyProof.Rows
def sp_is_road : SD := fun ds M _ Q => ∃ m ps v, ds = [netD m ps, v] ∧ okD v = true ∧ Q (.bl (inR 0 (ps.length - 1) v)) M
theorem xi_is_road {m : Int} {ps : List (Int × Int)} {v : D} {M : Mem} {X : XP} {Q : Kd} : sp_is_road [.tup [.int m, .tup (ps.map pr)], v] M X Q ↔ okD v = true ∧ Q (.bl (inR 0 (ps.length - 1) v)) M := by
  constructor
  · rintro ⟨m', ps', v', e, h1, h2⟩
    unfold netD at e
    simp only [List.cons.injEq, D.tup.injEq, D.int.injEq, and_true] at e
    obtain ⟨⟨rfl, e2⟩, rfl⟩ := e
    have : ps.length = ps'.length := by simpa using congrArg List.length e2
    rw [this]
    exact ⟨h1, h2⟩
  · exact fun h => ⟨m, ps, v, rfl, h⟩
theorem w_is_road (Γ : Gam) (gm : GMono Γ) (hi : Γ "is_integer" = sp_is_integer) (ds : List D) (M : Mem) (X : XP) (Q : Kd) (hl : ds.length = sig_is_road.ps.length) (h : sp_is_road ds M X Q) : wss Γ ir_is_road (bodyPo M X Q) (startD cc_is_road.N ds) M := by
  obtain ⟨m, ps, v, rfl, ht, q⟩ := h
  unfold ir_is_road cc_is_road netD
  simp only [wss, ws, wp.eq_1, wp.eq_2, wp.eq_3, wp.eq_4, wp.eq_5, wp.eq_6, wp.eq_7, wp.eq_8, wp.eq_9, wp.eq_10, wp.eq_11, wp.eq_12, wp.eq_13, wp.eq_14, wp.eq_15, wp.eq_16, wp.eq_17, wp.eq_18, wp.eq_19, wp.eq_20, wp.eq_22, wp.eq_23, wp.eq_24, wp.eq_25, wps, wpO, wpK, wpP, wpC, wpI, wpTg.eq_1, tg_tup, tg_fl, tg_cons, tg_nil, bodyPo, startD, shr_non, shr_bl, shr_int, shr_str, shr_ty, shr_tup, shr_lst, shr_fz, shr_dct, shr_loc, shr_fr, truth_bl, true_and, add_ii, sub_ii, mul_ii, fdiv_ii, mod_ii, pow_ii, lt_ii, le_ii, gt_ii, ge_ii, len_t, abs_i, int_i, int_b, Es.len, List.map_cons, List.map_nil, List.length_cons, List.length_nil, List.cons_append, List.nil_append, List.replicate_succ, List.replicate_zero, List.getElem?_cons_zero, List.getElem?_cons_succ, List.set_cons_zero, List.set_cons_succ, Option.some.injEq, exists_eq_left', Nat.zero_add, Nat.reduceAdd, Nat.reduceSub, eq_iff, ne_iff, ess_iff, nss_iff, max_iff, min_iff, isA_int, isA_bool, isA_tuple, isA_list, isA_str, okD_shr, ix0_2, ix1_2, ix0_3, ix1_3, ix2_3, ix0_1, decide_eq_true_eq, Bool.not_eq_true', Bool.not_eq_false', Bool.not_not, Bool.not_true, Bool.not_false, decide_eq_false_iff_not, List.cons.injEq, and_true, exists_and_left, exists_eq_left, exists_eq_right, D.int.injEq, if_true, if_false, Bool.false_eq_true, reduceCtorEq, ite_true, ite_false, D.tup.injEq, D.bl.injEq, D.str.injEq, Int.cast_ofNat_Int, Int.reduceEq, not_true_eq_false, not_false_eq_true, wipeD, List.foldr_cons, List.foldr_nil, hi, sp_is_integer, ht]
  cases hv : isInt v with
  | false =>
    rw [inR_no hv] at q
    simp only [wss, ws, wp.eq_1, wp.eq_2, wp.eq_3, wp.eq_4, wp.eq_5, wp.eq_6, wp.eq_7, wp.eq_8, wp.eq_9, wp.eq_10, wp.eq_11, wp.eq_12, wp.eq_13, wp.eq_14, wp.eq_15, wp.eq_16, wp.eq_17, wp.eq_18, wp.eq_19, wp.eq_20, wp.eq_22, wp.eq_23, wp.eq_24, wp.eq_25, wps, wpO, wpK, wpP, wpC, wpI, wpTg.eq_1, tg_tup, tg_fl, tg_cons, tg_nil, bodyPo, startD, shr_non, shr_bl, shr_int, shr_str, shr_ty, shr_tup, shr_lst, shr_fz, shr_dct, shr_loc, shr_fr, truth_bl, true_and, add_ii, sub_ii, mul_ii, fdiv_ii, mod_ii, pow_ii, lt_ii, le_ii, gt_ii, ge_ii, len_t, abs_i, int_i, int_b, Es.len, List.map_cons, List.map_nil, List.length_cons, List.length_nil, List.cons_append, List.nil_append, List.replicate_succ, List.replicate_zero, List.getElem?_cons_zero, List.getElem?_cons_succ, List.set_cons_zero, List.set_cons_succ, Option.some.injEq, exists_eq_left', Nat.zero_add, Nat.reduceAdd, Nat.reduceSub, eq_iff, ne_iff, ess_iff, nss_iff, max_iff, min_iff, isA_int, isA_bool, isA_tuple, isA_list, isA_str, okD_shr, ix0_2, ix1_2, ix0_3, ix1_3, ix2_3, ix0_1, decide_eq_true_eq, Bool.not_eq_true', Bool.not_eq_false', Bool.not_not, Bool.not_true, Bool.not_false, decide_eq_false_iff_not, List.cons.injEq, and_true, exists_and_left, exists_eq_left, exists_eq_right, D.int.injEq, if_true, if_false, Bool.false_eq_true, reduceCtorEq, ite_true, ite_false, D.tup.injEq, D.bl.injEq, D.str.injEq, Int.cast_ofNat_Int, Int.reduceEq, not_true_eq_false, not_false_eq_true, wipeD, List.foldr_cons, List.foldr_nil]
    exact ret_same rfl q
  | true =>
    obtain ⟨i, rfl⟩ := int_of hv
    rw [inR_int] at q
    simp only [wss, ws, wp.eq_1, wp.eq_2, wp.eq_3, wp.eq_4, wp.eq_5, wp.eq_6, wp.eq_7, wp.eq_8, wp.eq_9, wp.eq_10, wp.eq_11, wp.eq_12, wp.eq_13, wp.eq_14, wp.eq_15, wp.eq_16, wp.eq_17, wp.eq_18, wp.eq_19, wp.eq_20, wp.eq_22, wp.eq_23, wp.eq_24, wp.eq_25, wps, wpO, wpK, wpP, wpC, wpI, wpTg.eq_1, tg_tup, tg_fl, tg_cons, tg_nil, bodyPo, startD, shr_non, shr_bl, shr_int, shr_str, shr_ty, shr_tup, shr_lst, shr_fz, shr_dct, shr_loc, shr_fr, truth_bl, true_and, add_ii, sub_ii, mul_ii, fdiv_ii, mod_ii, pow_ii, lt_ii, le_ii, gt_ii, ge_ii, len_t, abs_i, int_i, int_b, Es.len, List.map_cons, List.map_nil, List.length_cons, List.length_nil, List.cons_append, List.nil_append, List.replicate_succ, List.replicate_zero, List.getElem?_cons_zero, List.getElem?_cons_succ, List.set_cons_zero, List.set_cons_succ, Option.some.injEq, exists_eq_left', Nat.zero_add, Nat.reduceAdd, Nat.reduceSub, eq_iff, ne_iff, ess_iff, nss_iff, max_iff, min_iff, isA_int, isA_bool, isA_tuple, isA_list, isA_str, okD_shr, ix0_2, ix1_2, ix0_3, ix1_3, ix2_3, ix0_1, decide_eq_true_eq, Bool.not_eq_true', Bool.not_eq_false', Bool.not_not, Bool.not_true, Bool.not_false, decide_eq_false_iff_not, List.cons.injEq, and_true, exists_and_left, exists_eq_left, exists_eq_right, D.int.injEq, if_true, if_false, Bool.false_eq_true, reduceCtorEq, ite_true, ite_false, D.tup.injEq, D.bl.injEq, D.str.injEq, Int.cast_ofNat_Int, Int.reduceEq, not_true_eq_false, not_false_eq_true, wipeD, List.foldr_cons, List.foldr_nil]
    repeat' split
    all_goals (refine ret_bl ?_ q; (refine Bool.eq_iff_iff.mpr ?_; simp only [decide_eq_true_eq, Bool.not_eq_true', decide_eq_false_iff_not, reduceCtorEq, Bool.and_eq_true, Bool.or_eq_true, Bool.and_eq_false_iff, Bool.or_eq_false_iff, Bool.not_eq_false', Bool.false_eq_true, false_iff, true_iff, iff_true, iff_false]; (try simp only [List.length_map]); omega))
def dueRoads (n : Int) (e : D) (i : Nat) : List D → D
  | [] => e
  | r :: rs => if inR 0 (n - 1) r = true then dueRoads n e (i + 1) rs else .tup [.str "road", .int i]
theorem dueRoads_cons {n : Int} {e : D} {i : Nat} {r : D} {rs : List D} : dueRoads n e i (r :: rs) = if inR 0 (n - 1) r = true then dueRoads n e (i + 1) rs else .tup [.str "road", .int i] := rfl
def dueJ (m : Int) (ps : List (Int × Int)) (at_ : Int) (i : Nat) : List D → D
  | [] => if at_ = m - 1 then .non else .str "out"
  | r :: rs => match ps[(iv r).toNat]? with
    | some p => if p.1 = at_ then dueJ m ps p.2 (i + 1) rs else .tup [.str "joint", .int i]
    | none => .non
theorem dueJ_cons {m : Int} {ps : List (Int × Int)} {a : Int} {i : Nat} {r : D} {rs : List D} {p : Int × Int} (h : ps[(iv r).toNat]? = some p) : dueJ m ps a i (r :: rs) = if p.1 = a then dueJ m ps p.2 (i + 1) rs else .tup [.str "joint", .int i] := by
  show (match ps[(iv r).toNat]? with | some p => _ | none => _) = _
  rw [h]
def due (m : Int) (ps : List (Int × Int)) (v : D) : D := match v with
  | .tup ys => if tupN 1 60 (.tup ys) = true then dueRoads ps.length (dueJ m ps 0 0 ys) 0 ys else .str "form"
  | _ => .str "form"
theorem due_no {m : Int} {ps : List (Int × Int)} {v : D} (h : tupN 1 60 v = false) : due m ps v = .str "form" := by
  unfold due
  split
  · rw [if_neg (by rw [h]; exact Bool.false_ne_true)]
  · rfl
theorem due_yes {m : Int} {ps : List (Int × Int)} {ys : List D} (h : tupN 1 60 (.tup ys) = true) : due m ps (.tup ys) = dueRoads ps.length (dueJ m ps 0 0 ys) 0 ys := by
  show (if tupN 1 60 (.tup ys) = true then _ else _) = _
  rw [if_pos h]
theorem dueJ_ok {m : Int} {ps : List (Int × Int)} : ∀ {rs : List D} {a : Int} {i : Nat}, noLoc (dueJ m ps a i rs) = true
  | [], a, i => by unfold dueJ; split <;> rfl
  | r :: rs, a, i => by
    unfold dueJ
    split
    · split
      · exact dueJ_ok
      · rfl
    · rfl
theorem dueRoads_ok {n : Int} {e : D} (he : noLoc e = true) : ∀ {rs : List D} {i : Nat}, noLoc (dueRoads n e i rs) = true
  | [], _ => he
  | r :: rs, i => by
    unfold dueRoads
    split
    · exact dueRoads_ok he
    · rfl
theorem due_ok {m : Int} {ps : List (Int × Int)} {v : D} : noLoc (due m ps v) = true := by
  unfold due
  split
  · split
    · exact dueRoads_ok dueJ_ok
    · rfl
  · rfl
/-- all are roads: the loop over them ends, else tells the first that is none -/
theorem roads_loop {Γ : Gam} (gm : GMono Γ) {kv kp ky : Nat} {c : E} {ss : Ss} {P : Po} {M : Mem} {ys : List D} {n : Int} {e : D} (hy : okDs ys = true) (hl : ys.length ≤ 1000) (f : Option D → Option D → Sl) {a0 b0 : Option D}
    (h1 : ∀ a b, (f a b)[kv]? = some (some (.tup ys))) (h2 : ∀ a b x y, (((f a b).set kp (some x)).set ky (some y)) = f (some x) (some y)) (h3 : ∀ x y, (f (some x) y)[kp]? = some (some x))
    (hc : ∀ x y, okD y = true → wp Γ c (f (some x) (some y)) M (fun z mm => P.xe z (f (some x) (some y)) mm) fun d M1 => M1 = M ∧ truth (shr d) M fun k => k = !inR 0 (n - 1) y)
    (q : P.rt (dueRoads n e 0 ys) M) (hend : (∀ d ∈ ys, inR 0 (n - 1) d = true) → dueRoads n e 0 ys = e → ∀ a b, wss Γ ss P (f a b) M) :
    wss Γ (.cons (.for (.tup (.cons (.nm kp) (.cons (.nm ky) .nil))) (.enm (.cons (.v kv) .nil)) (.cons (.ite c (.cons (.ret (.tup (.cons (.c (.str "road")) (.cons (.v kp) .nil)))) .nil) .nil) .nil)) ss) P (f a0 b0) M := by
  refine for_cut gm (M1 := M) (enumFrom 0 ys) [] ?_ (fun i σ M' => M' = M ∧ i ≤ ys.length ∧ (∀ d ∈ ys.take i, inR 0 (n - 1) d = true) ∧ dueRoads n e i (ys.drop i) = dueRoads n e 0 ys ∧ ∃ a b, σ = f a b) ⟨rfl, Nat.zero_le _, fun d hd => by simp at hd, rfl, _, _, rfl⟩ (fun _ _ _ _ g hg => nomatch hg) ?_ ?_
  · simp only [wss, ws, wp.eq_1, wp.eq_2, wp.eq_3, wp.eq_4, wp.eq_5, wp.eq_6, wp.eq_7, wp.eq_8, wp.eq_9, wp.eq_10, wp.eq_11, wp.eq_12, wp.eq_13, wp.eq_14, wp.eq_15, wp.eq_16, wp.eq_17, wp.eq_18, wp.eq_19, wp.eq_20, wp.eq_22, wp.eq_23, wp.eq_24, wp.eq_25, wps, wpO, wpK, wpP, wpC, wpI, wpTg.eq_1, tg_tup, tg_fl, tg_cons, tg_nil, bodyPo, startD, shr_non, shr_bl, shr_int, shr_str, shr_ty, shr_tup, shr_lst, shr_fz, shr_dct, shr_loc, shr_fr, truth_bl, true_and, add_ii, sub_ii, mul_ii, fdiv_ii, mod_ii, pow_ii, lt_ii, le_ii, gt_ii, ge_ii, len_t, abs_i, int_i, int_b, Es.len, List.map_cons, List.map_nil, List.length_cons, List.length_nil, List.cons_append, List.nil_append, List.replicate_succ, List.replicate_zero, List.getElem?_cons_zero, List.getElem?_cons_succ, List.set_cons_zero, List.set_cons_succ, Option.some.injEq, exists_eq_left', Nat.zero_add, Nat.reduceAdd, Nat.reduceSub, eq_iff, ne_iff, ess_iff, nss_iff, max_iff, min_iff, isA_int, isA_bool, isA_tuple, isA_list, isA_str, okD_shr, ix0_2, ix1_2, ix0_3, ix1_3, ix2_3, ix0_1, decide_eq_true_eq, Bool.not_eq_true', Bool.not_eq_false', Bool.not_not, Bool.not_true, Bool.not_false, decide_eq_false_iff_not, List.cons.injEq, and_true, exists_and_left, exists_eq_left, exists_eq_right, D.int.injEq, if_true, if_false, Bool.false_eq_true, reduceCtorEq, ite_true, ite_false, D.tup.injEq, D.bl.injEq, D.str.injEq, Int.cast_ofNat_Int, Int.reduceEq, not_true_eq_false, not_false_eq_true, wipeD, List.foldr_cons, List.foldr_nil, h1]
    exact it_t (by simp)
  · rintro σ M' ⟨rfl, hi2, ha, hd, a, b, rfl⟩
    rw [enum_len] at hd ha
    rw [List.drop_length] at hd
    rw [List.take_length] at ha
    exact hend ha hd.symm a b
  · rintro i x σ M' hx ⟨rfl, hi2, ha, hd, a, b, rfl⟩
    obtain ⟨d, hh, rfl⟩ := enum_at hx
    have hd1 : okD d = true := (okDs_iff.mp hy) d (List.mem_of_getElem? hh)
    rw [drop_at hh, dueRoads_cons] at hd
    simp only [wss, ws, wp.eq_1, wp.eq_2, wp.eq_3, wp.eq_4, wp.eq_5, wp.eq_6, wp.eq_7, wp.eq_8, wp.eq_9, wp.eq_10, wp.eq_11, wp.eq_12, wp.eq_13, wp.eq_14, wp.eq_15, wp.eq_16, wp.eq_17, wp.eq_18, wp.eq_19, wp.eq_20, wp.eq_22, wp.eq_23, wp.eq_24, wp.eq_25, wps, wpO, wpK, wpP, wpC, wpI, wpTg.eq_1, tg_tup, tg_fl, tg_cons, tg_nil, bodyPo, startD, shr_non, shr_bl, shr_int, shr_str, shr_ty, shr_tup, shr_lst, shr_fz, shr_dct, shr_loc, shr_fr, truth_bl, true_and, add_ii, sub_ii, mul_ii, fdiv_ii, mod_ii, pow_ii, lt_ii, le_ii, gt_ii, ge_ii, len_t, abs_i, int_i, int_b, Es.len, List.map_cons, List.map_nil, List.length_cons, List.length_nil, List.cons_append, List.nil_append, List.replicate_succ, List.replicate_zero, List.getElem?_cons_zero, List.getElem?_cons_succ, List.set_cons_zero, List.set_cons_succ, Option.some.injEq, exists_eq_left', Nat.zero_add, Nat.reduceAdd, Nat.reduceSub, eq_iff, ne_iff, ess_iff, nss_iff, max_iff, min_iff, isA_int, isA_bool, isA_tuple, isA_list, isA_str, okD_shr, ix0_2, ix1_2, ix0_3, ix1_3, ix2_3, ix0_1, decide_eq_true_eq, Bool.not_eq_true', Bool.not_eq_false', Bool.not_not, Bool.not_true, Bool.not_false, decide_eq_false_iff_not, List.cons.injEq, and_true, exists_and_left, exists_eq_left, exists_eq_right, D.int.injEq, if_true, if_false, Bool.false_eq_true, reduceCtorEq, ite_true, ite_false, D.tup.injEq, D.bl.injEq, D.str.injEq, Int.cast_ofNat_Int, Int.reduceEq, not_true_eq_false, not_false_eq_true, wipeD, List.foldr_cons, List.foldr_nil, okD_shr hd1]
    rw [h2]
    refine wp_mono gm c _ _ _ _ _ (fun z M1 hz => ?_) (hc _ d hd1)
    obtain ⟨rfl, hz⟩ := hz
    refine truth_mono (fun b hb => ?_) hz
    subst hb
    cases hp : inR 0 (n - 1) d with
    | true =>
      rw [if_pos hp] at hd
      simp only [wss, ws, wp.eq_1, wp.eq_2, wp.eq_3, wp.eq_4, wp.eq_5, wp.eq_6, wp.eq_7, wp.eq_8, wp.eq_9, wp.eq_10, wp.eq_11, wp.eq_12, wp.eq_13, wp.eq_14, wp.eq_15, wp.eq_16, wp.eq_17, wp.eq_18, wp.eq_19, wp.eq_20, wp.eq_22, wp.eq_23, wp.eq_24, wp.eq_25, wps, wpO, wpK, wpP, wpC, wpI, wpTg.eq_1, tg_tup, tg_fl, tg_cons, tg_nil, bodyPo, startD, shr_non, shr_bl, shr_int, shr_str, shr_ty, shr_tup, shr_lst, shr_fz, shr_dct, shr_loc, shr_fr, truth_bl, true_and, add_ii, sub_ii, mul_ii, fdiv_ii, mod_ii, pow_ii, lt_ii, le_ii, gt_ii, ge_ii, len_t, abs_i, int_i, int_b, Es.len, List.map_cons, List.map_nil, List.length_cons, List.length_nil, List.cons_append, List.nil_append, List.replicate_succ, List.replicate_zero, List.getElem?_cons_zero, List.getElem?_cons_succ, List.set_cons_zero, List.set_cons_succ, Option.some.injEq, exists_eq_left', Nat.zero_add, Nat.reduceAdd, Nat.reduceSub, eq_iff, ne_iff, ess_iff, nss_iff, max_iff, min_iff, isA_int, isA_bool, isA_tuple, isA_list, isA_str, okD_shr, ix0_2, ix1_2, ix0_3, ix1_3, ix2_3, ix0_1, decide_eq_true_eq, Bool.not_eq_true', Bool.not_eq_false', Bool.not_not, Bool.not_true, Bool.not_false, decide_eq_false_iff_not, List.cons.injEq, and_true, exists_and_left, exists_eq_left, exists_eq_right, D.int.injEq, if_true, if_false, Bool.false_eq_true, reduceCtorEq, ite_true, ite_false, D.tup.injEq, D.bl.injEq, D.str.injEq, Int.cast_ofNat_Int, Int.reduceEq, not_true_eq_false, not_false_eq_true, wipeD, List.foldr_cons, List.foldr_nil]
      refine ⟨(List.getElem?_eq_some_iff.mp hh).1, fun d' hd' => ?_, hd, _, _, rfl⟩
      rw [List.take_succ, hh] at hd'
      rcases List.mem_append.mp hd' with h | h
      · exact ha d' h
      · simp at h; rw [h]; exact hp
    | false =>
      rw [if_neg (by rw [hp]; exact Bool.false_ne_true)] at hd
      simp only [wss, ws, wp.eq_1, wp.eq_2, wp.eq_3, wp.eq_4, wp.eq_5, wp.eq_6, wp.eq_7, wp.eq_8, wp.eq_9, wp.eq_10, wp.eq_11, wp.eq_12, wp.eq_13, wp.eq_14, wp.eq_15, wp.eq_16, wp.eq_17, wp.eq_18, wp.eq_19, wp.eq_20, wp.eq_22, wp.eq_23, wp.eq_24, wp.eq_25, wps, wpO, wpK, wpP, wpC, wpI, wpTg.eq_1, tg_tup, tg_fl, tg_cons, tg_nil, bodyPo, startD, shr_non, shr_bl, shr_int, shr_str, shr_ty, shr_tup, shr_lst, shr_fz, shr_dct, shr_loc, shr_fr, truth_bl, true_and, add_ii, sub_ii, mul_ii, fdiv_ii, mod_ii, pow_ii, lt_ii, le_ii, gt_ii, ge_ii, len_t, abs_i, int_i, int_b, Es.len, List.map_cons, List.map_nil, List.length_cons, List.length_nil, List.cons_append, List.nil_append, List.replicate_succ, List.replicate_zero, List.getElem?_cons_zero, List.getElem?_cons_succ, List.set_cons_zero, List.set_cons_succ, Option.some.injEq, exists_eq_left', Nat.zero_add, Nat.reduceAdd, Nat.reduceSub, eq_iff, ne_iff, ess_iff, nss_iff, max_iff, min_iff, isA_int, isA_bool, isA_tuple, isA_list, isA_str, okD_shr, ix0_2, ix1_2, ix0_3, ix1_3, ix2_3, ix0_1, decide_eq_true_eq, Bool.not_eq_true', Bool.not_eq_false', Bool.not_not, Bool.not_true, Bool.not_false, decide_eq_false_iff_not, List.cons.injEq, and_true, exists_and_left, exists_eq_left, exists_eq_right, D.int.injEq, if_true, if_false, Bool.false_eq_true, reduceCtorEq, ite_true, ite_false, D.tup.injEq, D.bl.injEq, D.str.injEq, Int.cast_ofNat_Int, Int.reduceEq, not_true_eq_false, not_false_eq_true, wipeD, List.foldr_cons, List.foldr_nil, h3]
      rw [← hd] at q
      exact ⟨by rw [sizeLine_eq]; decide, q⟩
def sp_due : SD := fun ds M _ Q => ∃ m ps v, ds = [netD m ps, v] ∧ ps.length ≤ 1000 ∧ okD v = true ∧ Q (due m ps v) M
/-- the joints, told one behind another -/
theorem joint_loop {Γ : Gam} (gm : GMono Γ) {kv kp ky : Nat} {c ea : E} {ss : Ss} {P : Po} {M : Mem} {ys : List D} {m : Int} {ps : List (Int × Int)} (f : Int → Option D → Option D → Sl) {a0 b0 : Option D} (hz : ps.length ≤ 1000) (hl : ys.length ≤ 1000)
    (hr : ∀ d ∈ ys, inR 0 (ps.length - 1) d = true)
    (h1 : ∀ at_ a b, (f at_ a b)[kv]? = some (some (.tup ys))) (h2 : ∀ at_ a b x y, (((f at_ a b).set kp (some x)).set ky (some y)) = f at_ (some x) (some y)) (h3 : ∀ at_ x y, (f at_ (some x) y)[kp]? = some (some x)) (h4 : ∀ at_ a b z, (f at_ a b).set 2 (some (.int z)) = f z a b)
    (hc : ∀ at_ x j p, 0 ≤ j → ps[j.toNat]? = some p → wp Γ c (f at_ (some x) (some (.int j))) M (fun z mm => P.xe z (f at_ (some x) (some (.int j))) mm) fun d M1 => M1 = M ∧ truth (shr d) M fun k => k = !decide (p.1 = at_))
    (ha : ∀ at_ x j p, 0 ≤ j → ps[j.toNat]? = some p → wp Γ ea (f at_ (some x) (some (.int j))) M (fun z mm => P.xe z (f at_ (some x) (some (.int j))) mm) fun d M1 => M1 = M ∧ d = .int p.2)
    (q : P.rt (dueJ m ps 0 0 ys) M) (hend : ∀ at_ a b, dueJ m ps 0 0 ys = (if at_ = m - 1 then .non else .str "out") → wss Γ ss P (f at_ a b) M) :
    wss Γ (.cons (.for (.tup (.cons (.nm kp) (.cons (.nm ky) .nil))) (.enm (.cons (.v kv) .nil)) (.cons (.ite c (.cons (.ret (.tup (.cons (.c (.str "joint")) (.cons (.v kp) .nil)))) .nil) .nil) (.cons (.asg (.nm 2) ea) .nil))) ss) P (f 0 a0 b0) M := by
  refine for_cut gm (M1 := M) (enumFrom 0 ys) [] ?_ (fun i σ M' => M' = M ∧ i ≤ ys.length ∧ ∃ at_ a b, dueJ m ps at_ i (ys.drop i) = dueJ m ps 0 0 ys ∧ σ = f at_ a b) ⟨rfl, Nat.zero_le _, 0, _, _, rfl, rfl⟩ (fun _ _ _ _ g hg => nomatch hg) ?_ ?_
  · simp only [wss, ws, wp.eq_1, wp.eq_2, wp.eq_3, wp.eq_4, wp.eq_5, wp.eq_6, wp.eq_7, wp.eq_8, wp.eq_9, wp.eq_10, wp.eq_11, wp.eq_12, wp.eq_13, wp.eq_14, wp.eq_15, wp.eq_16, wp.eq_17, wp.eq_18, wp.eq_19, wp.eq_20, wp.eq_22, wp.eq_23, wp.eq_24, wp.eq_25, wps, wpO, wpK, wpP, wpC, wpI, wpTg.eq_1, tg_tup, tg_fl, tg_cons, tg_nil, bodyPo, startD, shr_non, shr_bl, shr_int, shr_str, shr_ty, shr_tup, shr_lst, shr_fz, shr_dct, shr_loc, shr_fr, truth_bl, true_and, add_ii, sub_ii, mul_ii, fdiv_ii, mod_ii, pow_ii, lt_ii, le_ii, gt_ii, ge_ii, len_t, abs_i, int_i, int_b, Es.len, List.map_cons, List.map_nil, List.length_cons, List.length_nil, List.cons_append, List.nil_append, List.replicate_succ, List.replicate_zero, List.getElem?_cons_zero, List.getElem?_cons_succ, List.set_cons_zero, List.set_cons_succ, Option.some.injEq, exists_eq_left', Nat.zero_add, Nat.reduceAdd, Nat.reduceSub, eq_iff, ne_iff, ess_iff, nss_iff, max_iff, min_iff, isA_int, isA_bool, isA_tuple, isA_list, isA_str, okD_shr, ix0_2, ix1_2, ix0_3, ix1_3, ix2_3, ix0_1, decide_eq_true_eq, Bool.not_eq_true', Bool.not_eq_false', Bool.not_not, Bool.not_true, Bool.not_false, decide_eq_false_iff_not, List.cons.injEq, and_true, exists_and_left, exists_eq_left, exists_eq_right, D.int.injEq, if_true, if_false, Bool.false_eq_true, reduceCtorEq, ite_true, ite_false, D.tup.injEq, D.bl.injEq, D.str.injEq, Int.cast_ofNat_Int, Int.reduceEq, not_true_eq_false, not_false_eq_true, wipeD, List.foldr_cons, List.foldr_nil, h1]
    exact it_t (by simp)
  · rintro σ M' ⟨rfl, hi2, at_, a, b, hd, rfl⟩
    rw [enum_len, List.drop_length] at hd
    exact hend at_ a b hd.symm
  · rintro i x σ M' hx ⟨rfl, hi2, at_, a, b, hd, rfl⟩
    obtain ⟨d, hh, rfl⟩ := enum_at hx
    obtain ⟨j, rfl, j0, j1⟩ := inR_of (hr d (List.mem_of_getElem? hh))
    obtain ⟨p, hp⟩ : ∃ p, ps[j.toNat]? = some p := ⟨_, List.getElem?_eq_getElem (by omega)⟩
    rw [drop_at hh, dueJ_cons (p := p) hp] at hd
    show wpTg _ _ _ _
    simp only [wpTg, wpTgs]
    refine ⟨_, rfl, _, _, rfl, _, _, rfl, rfl, ?_⟩
    rw [shr_int, shr_int, h2]
    refine ite_cut gm (b := !decide (p.1 = at_)) (hc _ _ _ _ j0 hp) ?_
    by_cases e : p.1 = at_
    · rw [if_pos e] at hd
      rw [decide_eq_true e, Bool.not_true, if_neg Bool.false_ne_true]
      refine asg_cut gm (R := fun d M1 => d = .int p.2 ∧ M1 = M') (wp_mono gm ea _ _ _ _ _ (fun z M1 hz => ⟨hz.2, hz.1⟩) (ha _ _ _ _ j0 hp)) ?_
      rintro d M1 ⟨rfl, rfl⟩
      simp only [wpTg]
      rw [shr_int, h4]
      exact ⟨rfl, (List.getElem?_eq_some_iff.mp hh).1, _, _, _, hd, rfl⟩
    · rw [if_neg e] at hd
      rw [decide_eq_false e, Bool.not_false, if_pos rfl]
      simp only [wss, ws, wp.eq_1, wp.eq_2, wp.eq_3, wp.eq_4, wp.eq_5, wp.eq_6, wp.eq_7, wp.eq_8, wp.eq_9, wp.eq_10, wp.eq_11, wp.eq_12, wp.eq_13, wp.eq_14, wp.eq_15, wp.eq_16, wp.eq_17, wp.eq_18, wp.eq_19, wp.eq_20, wp.eq_22, wp.eq_23, wp.eq_24, wp.eq_25, wps, wpO, wpK, wpP, wpC, wpI, wpTg.eq_1, tg_tup, tg_fl, tg_cons, tg_nil, bodyPo, startD, shr_non, shr_bl, shr_int, shr_str, shr_ty, shr_tup, shr_lst, shr_fz, shr_dct, shr_loc, shr_fr, truth_bl, true_and, add_ii, sub_ii, mul_ii, fdiv_ii, mod_ii, pow_ii, lt_ii, le_ii, gt_ii, ge_ii, len_t, abs_i, int_i, int_b, Es.len, List.map_cons, List.map_nil, List.length_cons, List.length_nil, List.cons_append, List.nil_append, List.replicate_succ, List.replicate_zero, List.getElem?_cons_zero, List.getElem?_cons_succ, List.set_cons_zero, List.set_cons_succ, Option.some.injEq, exists_eq_left', Nat.zero_add, Nat.reduceAdd, Nat.reduceSub, eq_iff, ne_iff, ess_iff, nss_iff, max_iff, min_iff, isA_int, isA_bool, isA_tuple, isA_list, isA_str, okD_shr, ix0_2, ix1_2, ix0_3, ix1_3, ix2_3, ix0_1, decide_eq_true_eq, Bool.not_eq_true', Bool.not_eq_false', Bool.not_not, Bool.not_true, Bool.not_false, decide_eq_false_iff_not, List.cons.injEq, and_true, exists_and_left, exists_eq_left, exists_eq_right, D.int.injEq, if_true, if_false, Bool.false_eq_true, reduceCtorEq, ite_true, ite_false, D.tup.injEq, D.bl.injEq, D.str.injEq, Int.cast_ofNat_Int, Int.reduceEq, not_true_eq_false, not_false_eq_true, wipeD, List.foldr_cons, List.foldr_nil, h3]
      rw [← hd] at q
      exact ⟨by rw [sizeLine_eq]; decide, by simpa using q⟩
theorem w_trip_error (Γ : Gam) (gm : GMono Γ) (hi : Γ "is_road" = sp_is_road) (ds : List D) (M : Mem) (X : XP) (Q : Kd) (hl : ds.length = sig_trip_error.ps.length) (h : sp_due ds M X Q) : wss Γ ir_trip_error (bodyPo M X Q) (startD cc_trip_error.N ds) M := by
  obtain ⟨m, ps, v, rfl, hz, ht, q⟩ := h
  have q' : Ret M Q (due m ps v) M := ret_same due_ok q
  unfold ir_trip_error cc_trip_error
  refine len_cut gm (k := 1) rfl ht ?_
  cases h3 : tupN 1 60 v with
  | false =>
    rw [due_no h3] at q'
    exact q'
  | true =>
    rw [Bool.not_true, if_neg Bool.false_ne_true]
    obtain ⟨ys, rfl, l1, l2⟩ := tupN_of h3
    rw [due_yes h3] at q'
    have hy : okDs ys = true := by simpa [okD] using ht
    refine roads_loop gm (n := ps.length) (e := dueJ m ps 0 0 ys) (kv := 1) (kp := 3) (ky := 4) hy (by omega) (fun a b => [some (netD m ps), some (.tup ys), none, a, b]) (a0 := none) (b0 := none) (fun _ _ => rfl) (fun _ _ _ _ => rfl) (fun _ _ => rfl) ?_ q' ?_
    · intro x y hy1
      unfold netD
      simp only [wss, ws, wp.eq_1, wp.eq_2, wp.eq_3, wp.eq_4, wp.eq_5, wp.eq_6, wp.eq_7, wp.eq_8, wp.eq_9, wp.eq_10, wp.eq_11, wp.eq_12, wp.eq_13, wp.eq_14, wp.eq_15, wp.eq_16, wp.eq_17, wp.eq_18, wp.eq_19, wp.eq_20, wp.eq_22, wp.eq_23, wp.eq_24, wp.eq_25, wps, wpO, wpK, wpP, wpC, wpI, wpTg.eq_1, tg_tup, tg_fl, tg_cons, tg_nil, bodyPo, startD, shr_non, shr_bl, shr_int, shr_str, shr_ty, shr_tup, shr_lst, shr_fz, shr_dct, shr_loc, shr_fr, truth_bl, true_and, add_ii, sub_ii, mul_ii, fdiv_ii, mod_ii, pow_ii, lt_ii, le_ii, gt_ii, ge_ii, len_t, abs_i, int_i, int_b, Es.len, List.map_cons, List.map_nil, List.length_cons, List.length_nil, List.cons_append, List.nil_append, List.replicate_succ, List.replicate_zero, List.getElem?_cons_zero, List.getElem?_cons_succ, List.set_cons_zero, List.set_cons_succ, Option.some.injEq, exists_eq_left', Nat.zero_add, Nat.reduceAdd, Nat.reduceSub, eq_iff, ne_iff, ess_iff, nss_iff, max_iff, min_iff, isA_int, isA_bool, isA_tuple, isA_list, isA_str, okD_shr, ix0_2, ix1_2, ix0_3, ix1_3, ix2_3, ix0_1, decide_eq_true_eq, Bool.not_eq_true', Bool.not_eq_false', Bool.not_not, Bool.not_true, Bool.not_false, decide_eq_false_iff_not, List.cons.injEq, and_true, exists_and_left, exists_eq_left, exists_eq_right, D.int.injEq, if_true, if_false, Bool.false_eq_true, reduceCtorEq, ite_true, ite_false, D.tup.injEq, D.bl.injEq, D.str.injEq, Int.cast_ofNat_Int, Int.reduceEq, not_true_eq_false, not_false_eq_true, wipeD, List.foldr_cons, List.foldr_nil, hi, xi_is_road, hy1]
    intro ha he a b
    rw [he] at q'
    refine asg_cut gm (R := fun d M1 => d = .int 0 ∧ M1 = M) ⟨rfl, rfl⟩ ?_
    rintro d M1 ⟨rfl, rfl⟩
    refine joint_loop gm (m := m) (ps := ps) (ys := ys) (kv := 1) (kp := 3) (ky := 4) (fun at_ a b => [some (netD m ps), some (.tup ys), some (.int at_), a, b]) hz (by omega) ha (fun _ _ _ => rfl) (fun _ _ _ _ _ => rfl) (fun _ _ _ => rfl) (fun _ _ _ _ => rfl) ?_ ?_ q' ?_
    · intro at_ x j p j0 hp
      unfold netD
      simp only [wss, ws, wp.eq_1, wp.eq_2, wp.eq_3, wp.eq_4, wp.eq_5, wp.eq_6, wp.eq_7, wp.eq_8, wp.eq_9, wp.eq_10, wp.eq_11, wp.eq_12, wp.eq_13, wp.eq_14, wp.eq_15, wp.eq_16, wp.eq_17, wp.eq_18, wp.eq_19, wp.eq_20, wp.eq_22, wp.eq_23, wp.eq_24, wp.eq_25, wps, wpO, wpK, wpP, wpC, wpI, wpTg.eq_1, tg_tup, tg_fl, tg_cons, tg_nil, bodyPo, startD, shr_non, shr_bl, shr_int, shr_str, shr_ty, shr_tup, shr_lst, shr_fz, shr_dct, shr_loc, shr_fr, truth_bl, true_and, add_ii, sub_ii, mul_ii, fdiv_ii, mod_ii, pow_ii, lt_ii, le_ii, gt_ii, ge_ii, len_t, abs_i, int_i, int_b, Es.len, List.map_cons, List.map_nil, List.length_cons, List.length_nil, List.cons_append, List.nil_append, List.replicate_succ, List.replicate_zero, List.getElem?_cons_zero, List.getElem?_cons_succ, List.set_cons_zero, List.set_cons_succ, Option.some.injEq, exists_eq_left', Nat.zero_add, Nat.reduceAdd, Nat.reduceSub, eq_iff, ne_iff, ess_iff, nss_iff, max_iff, min_iff, isA_int, isA_bool, isA_tuple, isA_list, isA_str, okD_shr, ix0_2, ix1_2, ix0_3, ix1_3, ix2_3, ix0_1, decide_eq_true_eq, Bool.not_eq_true', Bool.not_eq_false', Bool.not_not, Bool.not_true, Bool.not_false, decide_eq_false_iff_not, List.cons.injEq, and_true, exists_and_left, exists_eq_left, exists_eq_right, D.int.injEq, if_true, if_false, Bool.false_eq_true, reduceCtorEq, ite_true, ite_false, D.tup.injEq, D.bl.injEq, D.str.injEq, Int.cast_ofNat_Int, Int.reduceEq, not_true_eq_false, not_false_eq_true, wipeD, List.foldr_cons, List.foldr_nil, ix_ps j0 hp hz]
    · intro at_ x j p j0 hp
      unfold netD
      simp only [wss, ws, wp.eq_1, wp.eq_2, wp.eq_3, wp.eq_4, wp.eq_5, wp.eq_6, wp.eq_7, wp.eq_8, wp.eq_9, wp.eq_10, wp.eq_11, wp.eq_12, wp.eq_13, wp.eq_14, wp.eq_15, wp.eq_16, wp.eq_17, wp.eq_18, wp.eq_19, wp.eq_20, wp.eq_22, wp.eq_23, wp.eq_24, wp.eq_25, wps, wpO, wpK, wpP, wpC, wpI, wpTg.eq_1, tg_tup, tg_fl, tg_cons, tg_nil, bodyPo, startD, shr_non, shr_bl, shr_int, shr_str, shr_ty, shr_tup, shr_lst, shr_fz, shr_dct, shr_loc, shr_fr, truth_bl, true_and, add_ii, sub_ii, mul_ii, fdiv_ii, mod_ii, pow_ii, lt_ii, le_ii, gt_ii, ge_ii, len_t, abs_i, int_i, int_b, Es.len, List.map_cons, List.map_nil, List.length_cons, List.length_nil, List.cons_append, List.nil_append, List.replicate_succ, List.replicate_zero, List.getElem?_cons_zero, List.getElem?_cons_succ, List.set_cons_zero, List.set_cons_succ, Option.some.injEq, exists_eq_left', Nat.zero_add, Nat.reduceAdd, Nat.reduceSub, eq_iff, ne_iff, ess_iff, nss_iff, max_iff, min_iff, isA_int, isA_bool, isA_tuple, isA_list, isA_str, okD_shr, ix0_2, ix1_2, ix0_3, ix1_3, ix2_3, ix0_1, decide_eq_true_eq, Bool.not_eq_true', Bool.not_eq_false', Bool.not_not, Bool.not_true, Bool.not_false, decide_eq_false_iff_not, List.cons.injEq, and_true, exists_and_left, exists_eq_left, exists_eq_right, D.int.injEq, if_true, if_false, Bool.false_eq_true, reduceCtorEq, ite_true, ite_false, D.tup.injEq, D.bl.injEq, D.str.injEq, Int.cast_ofNat_Int, Int.reduceEq, not_true_eq_false, not_false_eq_true, wipeD, List.foldr_cons, List.foldr_nil, ix_ps j0 hp hz]
    · intro at_ a b he
      rw [he] at q'
      unfold netD
      simp only [wss, ws, wp.eq_1, wp.eq_2, wp.eq_3, wp.eq_4, wp.eq_5, wp.eq_6, wp.eq_7, wp.eq_8, wp.eq_9, wp.eq_10, wp.eq_11, wp.eq_12, wp.eq_13, wp.eq_14, wp.eq_15, wp.eq_16, wp.eq_17, wp.eq_18, wp.eq_19, wp.eq_20, wp.eq_22, wp.eq_23, wp.eq_24, wp.eq_25, wps, wpO, wpK, wpP, wpC, wpI, wpTg.eq_1, tg_tup, tg_fl, tg_cons, tg_nil, bodyPo, startD, shr_non, shr_bl, shr_int, shr_str, shr_ty, shr_tup, shr_lst, shr_fz, shr_dct, shr_loc, shr_fr, truth_bl, true_and, add_ii, sub_ii, mul_ii, fdiv_ii, mod_ii, pow_ii, lt_ii, le_ii, gt_ii, ge_ii, len_t, abs_i, int_i, int_b, Es.len, List.map_cons, List.map_nil, List.length_cons, List.length_nil, List.cons_append, List.nil_append, List.replicate_succ, List.replicate_zero, List.getElem?_cons_zero, List.getElem?_cons_succ, List.set_cons_zero, List.set_cons_succ, Option.some.injEq, exists_eq_left', Nat.zero_add, Nat.reduceAdd, Nat.reduceSub, eq_iff, ne_iff, ess_iff, nss_iff, max_iff, min_iff, isA_int, isA_bool, isA_tuple, isA_list, isA_str, okD_shr, ix0_2, ix1_2, ix0_3, ix1_3, ix2_3, ix0_1, decide_eq_true_eq, Bool.not_eq_true', Bool.not_eq_false', Bool.not_not, Bool.not_true, Bool.not_false, decide_eq_false_iff_not, List.cons.injEq, and_true, exists_and_left, exists_eq_left, exists_eq_right, D.int.injEq, if_true, if_false, Bool.false_eq_true, reduceCtorEq, ite_true, ite_false, D.tup.injEq, D.bl.injEq, D.str.injEq, Int.cast_ofNat_Int, Int.reduceEq, not_true_eq_false, not_false_eq_true, wipeD, List.foldr_cons, List.foldr_nil]
      split
      · rename_i h
        rw [if_pos h] at q'
        exact q'
      · rename_i h
        rw [if_neg h] at q'
        exact q'
theorem walk_due {m : Int} {ps : List (Int × Int)} : ∀ {t : List Int} {a b : Int} {i : Nat}, walk ps a t = some b → dueJ m ps a i (t.map D.int) = if b = m - 1 then .non else .str "out"
  | [], a, b, i, h => by cases h; rfl
  | r :: t, a, b, i, h => by
    obtain ⟨h0, p, hp, e, h'⟩ := walk_cons h
    rw [List.map_cons, dueJ_cons (p := p) hp, if_pos e]
    exact walk_due h'
theorem roads_due {n : Int} {e : D} : ∀ {t : List Int} {i : Nat}, (∀ r ∈ t, 0 ≤ r ∧ r < n) → dueRoads n e i (t.map D.int) = e
  | [], _, _ => rfl
  | r :: t, i, h => by
    rw [List.map_cons, dueRoads_cons, if_pos]
    · exact roads_due fun x hx => h x (List.mem_cons_of_mem _ hx)
    · rw [inR_int]
      have := h r List.mem_cons_self
      simp only [Bool.and_eq_true, decide_eq_true_eq]
      omega
def sp_trip_count : SD := fun ds M _ Q => ∃ m ps, ds = [netD m ps] ∧ 2 ≤ m ∧ m ≤ 24 ∧ ps.length ≤ 60 ∧ Up m ps ∧ Q (.int (w m ps 0)) M
theorem w_trip_count (Γ : Gam) (gm : GMono Γ) (hw : Γ "ways_on" = sp_ways) (ds : List D) (M : Mem) (X : XP) (Q : Kd) (hl : ds.length = sig_trip_count.ps.length) (h : sp_trip_count ds M X Q) : wss Γ ir_trip_count (bodyPo M X Q) (startD cc_trip_count.N ds) M := by
  obtain ⟨m, ps, rfl, m2, m24, pl, u, q⟩ := h
  unfold ir_trip_count cc_trip_count
  simp only [wss, ws, wp.eq_1, wp.eq_2, wp.eq_3, wp.eq_4, wp.eq_5, wp.eq_6, wp.eq_7, wp.eq_8, wp.eq_9, wp.eq_10, wp.eq_11, wp.eq_12, wp.eq_13, wp.eq_14, wp.eq_15, wp.eq_16, wp.eq_17, wp.eq_18, wp.eq_19, wp.eq_20, wp.eq_22, wp.eq_23, wp.eq_24, wp.eq_25, wps, wpO, wpK, wpP, wpC, wpI, wpTg.eq_1, tg_tup, tg_fl, tg_cons, tg_nil, bodyPo, startD, shr_non, shr_bl, shr_int, shr_str, shr_ty, shr_tup, shr_lst, shr_fz, shr_dct, shr_loc, shr_fr, truth_bl, true_and, add_ii, sub_ii, mul_ii, fdiv_ii, mod_ii, pow_ii, lt_ii, le_ii, gt_ii, ge_ii, len_t, abs_i, int_i, int_b, Es.len, List.map_cons, List.map_nil, List.length_cons, List.length_nil, List.cons_append, List.nil_append, List.replicate_succ, List.replicate_zero, List.getElem?_cons_zero, List.getElem?_cons_succ, List.set_cons_zero, List.set_cons_succ, Option.some.injEq, exists_eq_left', Nat.zero_add, Nat.reduceAdd, Nat.reduceSub, eq_iff, ne_iff, ess_iff, nss_iff, max_iff, min_iff, isA_int, isA_bool, isA_tuple, isA_list, isA_str, okD_shr, ix0_2, ix1_2, ix0_3, ix1_3, ix2_3, ix0_1, decide_eq_true_eq, Bool.not_eq_true', Bool.not_eq_false', Bool.not_not, Bool.not_true, Bool.not_false, decide_eq_false_iff_not, List.cons.injEq, and_true, exists_and_left, exists_eq_left, exists_eq_right, D.int.injEq, if_true, if_false, Bool.false_eq_true, reduceCtorEq, ite_true, ite_false, D.tup.injEq, D.bl.injEq, D.str.injEq, Int.cast_ofNat_Int, Int.reduceEq, not_true_eq_false, not_false_eq_true, wipeD, List.foldr_cons, List.foldr_nil, hw]
  refine ⟨m, ps, rfl, m2, m24, pl, u, ?_⟩
  refine ix_sq (xs := arr m ps 0) (y := .int (w m ps 0)) rfl ?_ (ret_same rfl q)
  have := atI_nat (xs := arr m ps 0) (k := 0) (x := .int (w m ps 0)) (by rw [arr_at (by omega), if_pos (by decide)]; rfl) (by rw [arr_len, sizeLine_eq]; omega)
  exact this
theorem trip_due {m : Int} {ps : List (Int × Int)} (m2 : 2 ≤ m) (m24 : m ≤ 24) (u : Up m ps) {t : List Int} (h : walk ps 0 t = some (m - 1)) : due m ps (tupI t) = .non := by
  have h1 := walk_up u h (by decide) (by omega)
  have h0 : 0 < t.length := by
    cases t with
    | nil =>
      have e : (0 : Int) = m - 1 := Option.some.inj h
      omega
    | cons => simp
  unfold tupI
  rw [due_yes, roads_due (walk_in h), walk_due h, if_pos rfl]
  show (decide ((1 : Int) ≤ (t.map D.int).length) && decide (((t.map D.int).length : Int) ≤ 60)) = true
  rw [List.length_map]
  simp only [Bool.and_eq_true, decide_eq_true_eq]
  omega
end LK

set_option Elab.async false
set_option maxRecDepth 100000
set_option linter.all false
/-! What stands in trips together. -/
namespace LK
open PySem L2 Lay RZ PyProof.Rows
theorem walk_app {ps : List (Int × Int)} : ∀ {t u : List Int} {a b c : Int}, walk ps a t = some b → walk ps b u = some c → walk ps a (t ++ u) = some c
  | [], u, a, b, c, h1, h2 => by cases h1; exact h2
  | r :: t, u, a, b, c, h1, h2 => by
    obtain ⟨r0, p, hp, e, h⟩ := walk_cons h1
    exact walk_mk r0 hp e (walk_app h h2)
theorem reach_walk {ps : List (Int × Int)} {a b : Int} (h : Reach ps a b) : ∃ w, walk ps a w = some b := by
  induction h with
  | refl => exact ⟨[], rfl⟩
  | @step x y _ hm ih =>
    obtain ⟨w, hw⟩ := ih
    obtain ⟨i, hi⟩ := List.mem_iff_getElem?.mp hm
    exact ⟨w ++ [(i : Int)], walk_snoc (p := (x, y)) (by omega) (by simpa using hi) hw rfl⟩
theorem Reach.head {ps : List (Int × Int)} {a b c : Int} (hm : (a, b) ∈ ps) (h : Reach ps b c) : Reach ps a c := by
  induction h with
  | refl => exact .step .refl hm
  | step _ h2 ih => exact .step ih h2
/-- along a walk all its roads' feet are come to -/
theorem walk_foot {ps : List (Int × Int)} {s : Int} : ∀ {t : List Int} {a b : Int}, walk ps a t = some b → s ∈ t → ∃ q, ps[s.toNat]? = some q ∧ Reach ps a q.1
  | [], _, _, _, hs => nomatch hs
  | r :: t, a, b, h, hs => by
    obtain ⟨r0, p, hp, e, h⟩ := walk_cons h
    rcases List.mem_cons.mp hs with rfl | hs
    · exact ⟨p, hp, by rw [e]; exact .refl⟩
    · obtain ⟨q, hq, hr⟩ := walk_foot h hs
      exact ⟨q, hq, .head (b := p.2) (by rw [← e]; exact List.mem_of_getElem? hp) hr⟩
theorem walk_two {ps : List (Int × Int)} {r s : Int} (hrs : r ≠ s) : ∀ {t : List Int} {a b : Int}, walk ps a t = some b → r ∈ t → s ∈ t → ∃ p q, ps[r.toNat]? = some p ∧ ps[s.toNat]? = some q ∧ (Reach ps p.2 q.1 ∨ Reach ps q.2 p.1)
  | [], _, _, _, hr, _ => nomatch hr
  | x :: t, a, b, h, hr, hs => by
    obtain ⟨r0, p, hp, e, h'⟩ := walk_cons h
    rcases List.mem_cons.mp hr with rfl | hr2
    · rcases List.mem_cons.mp hs with rfl | hs
      · exact absurd rfl hrs
      · obtain ⟨q, hq, hre⟩ := walk_foot h' hs
        exact ⟨p, q, hp, hq, .inl hre⟩
    · rcases List.mem_cons.mp hs with rfl | hs
      · obtain ⟨q, hq, hre⟩ := walk_foot h' hr2
        exact ⟨q, p, hq, hp, .inr hre⟩
      · exact walk_two hrs h' hr2 hs
/-- a walk falls apart at each of its roads -/
theorem walk_at {ps : List (Int × Int)} {s : Int} : ∀ {t : List Int} {a b : Int}, walk ps a t = some b → s ∈ t → ∃ (q : Int × Int) (u v : List Int), 0 ≤ s ∧ ps[s.toNat]? = some q ∧ walk ps a u = some q.1 ∧ walk ps q.2 v = some b
  | [], _, _, _, hs => nomatch hs
  | r :: t, a, b, h, hs => by
    obtain ⟨r0, p, hp, e, h'⟩ := walk_cons h
    rcases List.mem_cons.mp hs with rfl | hs
    · exact ⟨p, [], t, r0, hp, by rw [e]; rfl, h'⟩
    · obtain ⟨q, u, v, s0, hq, h1, h2⟩ := walk_at h' hs
      exact ⟨q, r :: u, v, s0, hq, walk_mk r0 hp e h1, h2⟩
theorem walk_join {ps : List (Int × Int)} {r s a b : Int} {t1 t2 : List Int} {p q : Int × Int} (h1 : walk ps a t1 = some b) (h2 : walk ps a t2 = some b) (hr : r ∈ t1) (hs : s ∈ t2) (hp : ps[r.toNat]? = some p) (hq : ps[s.toNat]? = some q) (h : Reach ps p.2 q.1) :
    ∃ t, walk ps a t = some b ∧ r ∈ t ∧ s ∈ t := by
  obtain ⟨p', u, v, r0, hp', h3, h4⟩ := walk_at h1 hr
  obtain ⟨q', u', v', s0, hq', h5, h6⟩ := walk_at h2 hs
  rw [hp] at hp'; cases hp'
  rw [hq] at hq'; cases hq'
  obtain ⟨w, hw⟩ := reach_walk h
  have g1 : walk ps a (u ++ [r]) = some p.2 := walk_app h3 (walk_mk r0 hp rfl rfl)
  have g2 : walk ps a (u ++ [r] ++ w) = some q.1 := walk_app g1 hw
  have g3 : walk ps a (u ++ [r] ++ w ++ (s :: v')) = some b := walk_app g2 (walk_mk s0 hq rfl h6)
  exact ⟨_, g3, by simp, by simp⟩
/-- whether some trip has one, both -/
def has1 (m : Int) (ps : List (Int × Int)) (r : Int) : Prop := ∃ t, walk ps 0 t = some (m - 1) ∧ r ∈ t
def has2 (m : Int) (ps : List (Int × Int)) (r s : Int) : Prop := ∃ t, walk ps 0 t = some (m - 1) ∧ r ∈ t ∧ s ∈ t
theorem has2_iff {m : Int} {ps : List (Int × Int)} {r s : Int} {p q : Int × Int} (hp : ps[r.toNat]? = some p) (hq : ps[s.toNat]? = some q) (h1 : has1 m ps r) (h2 : has1 m ps s) : has2 m ps r s ↔ r = s ∨ Reach ps p.2 q.1 ∨ Reach ps q.2 p.1 := by
  constructor
  · rintro ⟨t, ht, hr, hs⟩
    by_cases e : r = s
    · exact .inl e
    · obtain ⟨p', q', hp', hq', h⟩ := walk_two e ht hr hs
      rw [hp] at hp'; cases hp'
      rw [hq] at hq'; cases hq'
      exact .inr h
  · obtain ⟨t1, w1, r1⟩ := h1
    obtain ⟨t2, w2, s2⟩ := h2
    rintro (rfl | h | h)
    · exact ⟨t1, w1, r1, r1⟩
    · exact walk_join w1 w2 r1 s2 hp hq h
    · obtain ⟨t, ht, h3, h4⟩ := walk_join w2 w1 s2 r1 hq hp h
      exact ⟨t, ht, h4, h3⟩
def ftI (ps : List (Int × Int)) (r : Int) : Int := (ps.getD r.toNat (0, 0)).1
theorem walk_feet {m : Int} {ps : List (Int × Int)} (u : Up m ps) : ∀ {t : List Int} {a b : Int}, walk ps a t = some b → (∀ x ∈ t.map (ftI ps), a ≤ x) ∧ (t.map (ftI ps)).Pairwise (· < ·) ∧ (t ≠ [] → (t.map (ftI ps))[0]? = some a)
  | [], _, _, _ => ⟨(fun _ h => nomatch h), .nil, fun h => absurd rfl h⟩
  | r :: t, a, b, h => by
    obtain ⟨r0, p, hp, e, h⟩ := walk_cons h
    obtain ⟨h1, h2, _⟩ := walk_feet u h
    have up := u p (List.mem_of_getElem? hp)
    have ef : ftI ps r = a := by unfold ftI; rw [List.getD_eq_getElem?_getD, hp]; exact e
    rw [List.map_cons, ef]
    refine ⟨fun x hx => ?_, List.pairwise_cons.mpr ⟨fun x hx => ?_, h2⟩, fun _ => rfl⟩
    · rcases List.mem_cons.mp hx with rfl | hx
      · exact Int.le_refl _
      · have := h1 x hx; omega
    · have := h1 x hx; omega
end LK

set_option Elab.async false
set_option maxRecDepth 100000
set_option linter.all false
namespace LK
open PySem L2 Lay RZ PyProof.Rows
def sp_together : SD := fun ds M _ Q => ∃ (m : Int) (ps : List (Int × Int)), ds = [netD m ps, .lst ((Ts m ps 0).map tupI)] ∧ 2 ≤ m ∧ m ≤ 7 ∧ ps.length ≤ 13 ∧ Up m ps ∧ Q (.bl true) M
open Classical
noncomputable def has1B (m : Int) (ps : List (Int × Int)) : D → Bool
  | .int r => decide (has1 m ps r)
  | _ => false
def isI (r : Int) : D → Bool
  | .int x => decide (x = r)
  | _ => false
def inT (r : Int) : D → Bool
  | .tup xs => xs.any (isI r)
  | _ => false
theorem inT_tupI {r : Int} {t : List Int} : inT r (tupI t) = decide (r ∈ t) := by
  show (t.map D.int).any (isI r) = _
  rw [List.any_map, Bool.eq_iff_iff, List.any_eq_true, decide_eq_true_iff]
  constructor
  · rintro ⟨x, hx, e⟩; exact (of_decide_eq_true e) ▸ hx
  · exact fun h => ⟨r, h, decide_eq_true rfl⟩
theorem any_ii {x : Int} : ∀ gs : List Int, (gs.map PyData.int).any (fun z => PyData.eqv z (.int x)) = decide (x ∈ gs)
  | [] => rfl
  | g :: gs => by
    rw [List.map_cons, List.any_cons, any_ii gs, eqv_ii]
    by_cases h : g = x
    · subst h; simp
    · have : ¬ x = g := fun e => h e.symm
      simp [h, this]
theorem in_tupI {x : Int} {M : Mem} {gs : List Int} {Q : Bool → Prop} (q : Q (decide (x ∈ gs))) : opC .isin (.int x) (tupI gs) M Q :=
  .inr (.inr (.inr ⟨gs.map .int, .int x, gs.map .int, rfl, .int x, ints_py gs, rfl, ints_shpT gs, by rw [any_ii]; exact q⟩))
section
variable {m : Int} {ps : List (Int × Int)}
theorem ne_filt {M : Mem} {Qb : Bool → Prop} {ts : List (List Int)} {f : D → Bool} (q : Qb (ts.any fun t => f (tupI t))) : opC .ne (.lst (((ts.map tupI).filter f).map fun x => x)) (.lst []) M Qb := by
  refine ne_nilE rfl rfl ?_
  have : (!(((ts.map tupI).filter f).map fun x => x).isEmpty) = ts.any fun t => f (tupI t) := by
    rw [List.map_id']
    clear q
    induction ts with
    | nil => rfl
    | cons t ts ih =>
      rw [List.map_cons, List.any_cons]
      by_cases h : f (tupI t) = true
      · rw [List.filter_cons_of_pos h, h]; rfl
      · rw [List.filter_cons_of_neg h, ih, (Bool.not_eq_true _).mp h, Bool.false_or]
  rw [this]; exact q
end
theorem ne_bl {a b : Bool} {M : Mem} {Qb : Bool → Prop} (q : Qb (!(a == b))) : opC .ne (.bl a) (.bl b) M Qb := .inr ⟨.bool a, .bool b, .bl a, .bl b, by cases a <;> decide, by cases b <;> decide, by cases a <;> cases b <;> exact q⟩
theorem w_law_are_together (Γ : Gam) (gm : GMono Γ) (hd : Γ "leads" = sp_leads) (ds : List D) (M : Mem) (X : XP) (Q : Kd) (hl : ds.length = sig_law_are_together.ps.length) (h : sp_together ds M X Q) : wss Γ ir_law_are_together (bodyPo M X Q) (startD cc_law_are_together.N ds) M := by
  obtain ⟨m, ps, rfl, m2, m7, hz, u, q⟩ := h
  unfold ir_law_are_together cc_law_are_together
  have hsz : sizeLine = 16777216 := sizeLine_eq
  have esh : shr (netD m ps) = netD m ps := rfl
  have est : ∀ t, shr (tupI t) = tupI t := fun t => rfl
  have hlen := Ts_len (m := m) (ps := ps) (a := 0)
  have small : (Ts m ps 0).length ≤ 8192 := by
    have := w_2 u 0 hz
    have : w m ps 0 ≤ 8192 := this
    omega
  have mem : ∀ t, t ∈ Ts m ps 0 ↔ walk ps 0 t = some (m - 1) := fun t => Ts_walk u (by decide) (by omega)
  have h1B : ∀ r : Int, ((Ts m ps 0).any fun t => inT r (tupI t)) = has1B m ps (.int r) := fun r => by
    rw [Bool.eq_iff_iff, List.any_eq_true]
    show _ ↔ decide _ = true
    rw [decide_eq_true_iff]
    constructor
    · rintro ⟨t, ht, hi⟩
      rw [inT_tupI] at hi
      exact ⟨t, (mem t).mp ht, of_decide_eq_true hi⟩
    · rintro ⟨t, ht, hi⟩
      exact ⟨t, (mem t).mpr ht, by rw [inT_tupI]; exact decide_eq_true hi⟩
  simp only [startD, wpTg.eq_1, tg_tup, tg_fl, tg_cons, tg_nil, shr_non, shr_bl, shr_int, shr_str, shr_ty, shr_tup, shr_lst, shr_fz, shr_dct, shr_loc, shr_fr, List.map_cons, List.map_nil, List.length_cons, List.length_nil, List.cons_append, List.nil_append, List.replicate_succ, List.replicate_zero, List.set_cons_zero, List.set_cons_succ, Nat.zero_add, Nat.reduceAdd, Nat.reduceSub]
  refine asg_cut gm (R := fun d M1 => M1 = M ∧ d = .fr (.lst ((rngD 0 ps.length 1).filter (has1B m ps)))) ?_ ?_
  · refine lc_cut gm (xs := rngD 0 ps.length 1) (gd := []) (has1B m ps) (fun x => x) ?_ (fun g hg => nomatch hg) ?_ (by rw [rngD_len]; omega) ?_
    · simp only [wss, ws, wp.eq_1, wp.eq_2, wp.eq_3, wp.eq_4, wp.eq_5, wp.eq_6, wp.eq_7, wp.eq_8, wp.eq_9, wp.eq_10, wp.eq_11, wp.eq_12, wp.eq_13, wp.eq_14, wp.eq_15, wp.eq_16, wp.eq_17, wp.eq_18, wp.eq_19, wp.eq_20, wp.eq_22, wp.eq_23, wp.eq_24, wp.eq_25, wps, wpO, wpK, wpP, wpC, wpI, wpTg.eq_1, tg_tup, tg_fl, tg_cons, tg_nil, bodyPo, startD, shr_non, shr_bl, shr_int, shr_str, shr_ty, shr_tup, shr_lst, shr_fz, shr_dct, shr_loc, shr_fr, truth_bl, true_and, add_ii, sub_ii, mul_ii, fdiv_ii, mod_ii, pow_ii, lt_ii, le_ii, gt_ii, ge_ii, len_t, abs_i, int_i, int_b, Es.len, List.map_cons, List.map_nil, List.length_cons, List.length_nil, List.cons_append, List.nil_append, List.replicate_succ, List.replicate_zero, List.getElem?_cons_zero, List.getElem?_cons_succ, List.set_cons_zero, List.set_cons_succ, Option.some.injEq, exists_eq_left', Nat.zero_add, Nat.reduceAdd, Nat.reduceSub, eq_iff, ne_iff, ess_iff, nss_iff, max_iff, min_iff, isA_int, isA_bool, isA_tuple, isA_list, isA_str, okD_shr, ix0_2, ix1_2, ix0_3, ix1_3, ix2_3, ix0_1, decide_eq_true_eq, Bool.not_eq_true', Bool.not_eq_false', Bool.not_not, Bool.not_true, Bool.not_false, decide_eq_false_iff_not, List.cons.injEq, and_true, exists_and_left, exists_eq_left, exists_eq_right, D.int.injEq, if_true, if_false, Bool.false_eq_true, reduceCtorEq, ite_true, ite_false, D.tup.injEq, D.bl.injEq, D.str.injEq, Int.cast_ofNat_Int, Int.reduceEq, not_true_eq_false, not_false_eq_true, wipeD, List.foldr_cons, List.foldr_nil, add_tt, addll_iff, slt_iff, sll_iff, lstt_iff, lstl_iff, tupt_iff, tupl_iff, len_l, sizeLine_eq, Nat.reduceLeDiff, netD]
      exact ⟨(ps.length : Int), by rw [List.length_map], by unfold small62; omega, rfl⟩
    · intro i x hx
      obtain ⟨hil, hx⟩ := rng1 (P := fun i x => x = .int (0 + (i : Int) * 1)) (fun i _ => rfl) i x hx
      subst hx
      generalize (0 + (i : Int) * 1) = r
      simp only [wss, ws, wp.eq_1, wp.eq_2, wp.eq_3, wp.eq_4, wp.eq_5, wp.eq_6, wp.eq_7, wp.eq_8, wp.eq_9, wp.eq_10, wp.eq_11, wp.eq_12, wp.eq_13, wp.eq_14, wp.eq_15, wp.eq_16, wp.eq_17, wp.eq_18, wp.eq_19, wp.eq_20, wp.eq_22, wp.eq_23, wp.eq_24, wp.eq_25, wps, wpO, wpK, wpP, wpC, wpI, wpTg.eq_1, tg_tup, tg_fl, tg_cons, tg_nil, bodyPo, startD, shr_non, shr_bl, shr_int, shr_str, shr_ty, shr_tup, shr_lst, shr_fz, shr_dct, shr_loc, shr_fr, truth_bl, true_and, add_ii, sub_ii, mul_ii, fdiv_ii, mod_ii, pow_ii, lt_ii, le_ii, gt_ii, ge_ii, len_t, abs_i, int_i, int_b, Es.len, List.map_cons, List.map_nil, List.length_cons, List.length_nil, List.cons_append, List.nil_append, List.replicate_succ, List.replicate_zero, List.getElem?_cons_zero, List.getElem?_cons_succ, List.set_cons_zero, List.set_cons_succ, Option.some.injEq, exists_eq_left', Nat.zero_add, Nat.reduceAdd, Nat.reduceSub, eq_iff, ne_iff, ess_iff, nss_iff, max_iff, min_iff, isA_int, isA_bool, isA_tuple, isA_list, isA_str, okD_shr, ix0_2, ix1_2, ix0_3, ix1_3, ix2_3, ix0_1, decide_eq_true_eq, Bool.not_eq_true', Bool.not_eq_false', Bool.not_not, Bool.not_true, Bool.not_false, decide_eq_false_iff_not, List.cons.injEq, and_true, exists_and_left, exists_eq_left, exists_eq_right, D.int.injEq, if_true, if_false, Bool.false_eq_true, reduceCtorEq, ite_true, ite_false, D.tup.injEq, D.bl.injEq, D.str.injEq, Int.cast_ofNat_Int, Int.reduceEq, not_true_eq_false, not_false_eq_true, wipeD, List.foldr_cons, List.foldr_nil, add_tt, addll_iff, slt_iff, sll_iff, lstt_iff, lstl_iff, tupt_iff, tupl_iff, len_l, sizeLine_eq, Nat.reduceLeDiff, wpK]
      refine lc_cut gm (xs := (Ts m ps 0).map tupI) (gd := []) (inT r) (fun x => x) ?_ (fun g hg => nomatch hg) ?_ (by rw [List.length_map]; omega) ?_
      · simp only [wss, ws, wp.eq_1, wp.eq_2, wp.eq_3, wp.eq_4, wp.eq_5, wp.eq_6, wp.eq_7, wp.eq_8, wp.eq_9, wp.eq_10, wp.eq_11, wp.eq_12, wp.eq_13, wp.eq_14, wp.eq_15, wp.eq_16, wp.eq_17, wp.eq_18, wp.eq_19, wp.eq_20, wp.eq_22, wp.eq_23, wp.eq_24, wp.eq_25, wps, wpO, wpK, wpP, wpC, wpI, wpTg.eq_1, tg_tup, tg_fl, tg_cons, tg_nil, bodyPo, startD, shr_non, shr_bl, shr_int, shr_str, shr_ty, shr_tup, shr_lst, shr_fz, shr_dct, shr_loc, shr_fr, truth_bl, true_and, add_ii, sub_ii, mul_ii, fdiv_ii, mod_ii, pow_ii, lt_ii, le_ii, gt_ii, ge_ii, len_t, abs_i, int_i, int_b, Es.len, List.map_cons, List.map_nil, List.length_cons, List.length_nil, List.cons_append, List.nil_append, List.replicate_succ, List.replicate_zero, List.getElem?_cons_zero, List.getElem?_cons_succ, List.set_cons_zero, List.set_cons_succ, Option.some.injEq, exists_eq_left', Nat.zero_add, Nat.reduceAdd, Nat.reduceSub, eq_iff, ne_iff, ess_iff, nss_iff, max_iff, min_iff, isA_int, isA_bool, isA_tuple, isA_list, isA_str, okD_shr, ix0_2, ix1_2, ix0_3, ix1_3, ix2_3, ix0_1, decide_eq_true_eq, Bool.not_eq_true', Bool.not_eq_false', Bool.not_not, Bool.not_true, Bool.not_false, decide_eq_false_iff_not, List.cons.injEq, and_true, exists_and_left, exists_eq_left, exists_eq_right, D.int.injEq, if_true, if_false, Bool.false_eq_true, reduceCtorEq, ite_true, ite_false, D.tup.injEq, D.bl.injEq, D.str.injEq, Int.cast_ofNat_Int, Int.reduceEq, not_true_eq_false, not_false_eq_true, wipeD, List.foldr_cons, List.foldr_nil, add_tt, addll_iff, slt_iff, sll_iff, lstt_iff, lstl_iff, tupt_iff, tupl_iff, len_l, sizeLine_eq, Nat.reduceLeDiff]
        exact it_l (by simp)
      · intro j y hy
        rw [List.getElem?_map] at hy
        obtain ⟨t, ht, rfl⟩ := Option.map_eq_some_iff.mp hy
        simp only [wss, ws, wp.eq_1, wp.eq_2, wp.eq_3, wp.eq_4, wp.eq_5, wp.eq_6, wp.eq_7, wp.eq_8, wp.eq_9, wp.eq_10, wp.eq_11, wp.eq_12, wp.eq_13, wp.eq_14, wp.eq_15, wp.eq_16, wp.eq_17, wp.eq_18, wp.eq_19, wp.eq_20, wp.eq_22, wp.eq_23, wp.eq_24, wp.eq_25, wps, wpO, wpK, wpP, wpC, wpI, wpTg.eq_1, tg_tup, tg_fl, tg_cons, tg_nil, bodyPo, startD, shr_non, shr_bl, shr_int, shr_str, shr_ty, shr_tup, shr_lst, shr_fz, shr_dct, shr_loc, shr_fr, truth_bl, true_and, add_ii, sub_ii, mul_ii, fdiv_ii, mod_ii, pow_ii, lt_ii, le_ii, gt_ii, ge_ii, len_t, abs_i, int_i, int_b, Es.len, List.map_cons, List.map_nil, List.length_cons, List.length_nil, List.cons_append, List.nil_append, List.replicate_succ, List.replicate_zero, List.getElem?_cons_zero, List.getElem?_cons_succ, List.set_cons_zero, List.set_cons_succ, Option.some.injEq, exists_eq_left', Nat.zero_add, Nat.reduceAdd, Nat.reduceSub, eq_iff, ne_iff, ess_iff, nss_iff, max_iff, min_iff, isA_int, isA_bool, isA_tuple, isA_list, isA_str, okD_shr, ix0_2, ix1_2, ix0_3, ix1_3, ix2_3, ix0_1, decide_eq_true_eq, Bool.not_eq_true', Bool.not_eq_false', Bool.not_not, Bool.not_true, Bool.not_false, decide_eq_false_iff_not, List.cons.injEq, and_true, exists_and_left, exists_eq_left, exists_eq_right, D.int.injEq, if_true, if_false, Bool.false_eq_true, reduceCtorEq, ite_true, ite_false, D.tup.injEq, D.bl.injEq, D.str.injEq, Int.cast_ofNat_Int, Int.reduceEq, not_true_eq_false, not_false_eq_true, wipeD, List.foldr_cons, List.foldr_nil, add_tt, addll_iff, slt_iff, sll_iff, lstt_iff, lstl_iff, tupt_iff, tupl_iff, len_l, sizeLine_eq, Nat.reduceLeDiff, wpK, est]
        exact in_tupI ⟨by rw [inT_tupI], fun _ => trivial⟩
      · simp only [wss, ws, wp.eq_1, wp.eq_2, wp.eq_3, wp.eq_4, wp.eq_5, wp.eq_6, wp.eq_7, wp.eq_8, wp.eq_9, wp.eq_10, wp.eq_11, wp.eq_12, wp.eq_13, wp.eq_14, wp.eq_15, wp.eq_16, wp.eq_17, wp.eq_18, wp.eq_19, wp.eq_20, wp.eq_22, wp.eq_23, wp.eq_24, wp.eq_25, wps, wpO, wpK, wpP, wpC, wpI, wpTg.eq_1, tg_tup, tg_fl, tg_cons, tg_nil, bodyPo, startD, shr_non, shr_bl, shr_int, shr_str, shr_ty, shr_tup, shr_lst, shr_fz, shr_dct, shr_loc, shr_fr, truth_bl, true_and, add_ii, sub_ii, mul_ii, fdiv_ii, mod_ii, pow_ii, lt_ii, le_ii, gt_ii, ge_ii, len_t, abs_i, int_i, int_b, Es.len, List.map_cons, List.map_nil, List.length_cons, List.length_nil, List.cons_append, List.nil_append, List.replicate_succ, List.replicate_zero, List.getElem?_cons_zero, List.getElem?_cons_succ, List.set_cons_zero, List.set_cons_succ, Option.some.injEq, exists_eq_left', Nat.zero_add, Nat.reduceAdd, Nat.reduceSub, eq_iff, ne_iff, ess_iff, nss_iff, max_iff, min_iff, isA_int, isA_bool, isA_tuple, isA_list, isA_str, okD_shr, ix0_2, ix1_2, ix0_3, ix1_3, ix2_3, ix0_1, decide_eq_true_eq, Bool.not_eq_true', Bool.not_eq_false', Bool.not_not, Bool.not_true, Bool.not_false, decide_eq_false_iff_not, List.cons.injEq, and_true, exists_and_left, exists_eq_left, exists_eq_right, D.int.injEq, if_true, if_false, Bool.false_eq_true, reduceCtorEq, ite_true, ite_false, D.tup.injEq, D.bl.injEq, D.str.injEq, Int.cast_ofNat_Int, Int.reduceEq, not_true_eq_false, not_false_eq_true, wipeD, List.foldr_cons, List.foldr_nil, add_tt, addll_iff, slt_iff, sll_iff, lstt_iff, lstl_iff, tupt_iff, tupl_iff, len_l, sizeLine_eq, Nat.reduceLeDiff]
        refine ne_filt ?_
        exact ⟨h1B r, fun _ => trivial⟩
    · rw [List.map_id']; exact ⟨rfl, rfl⟩
  rintro d M1 ⟨rfl, rfl⟩
  simp only [startD, wpTg.eq_1, tg_tup, tg_fl, tg_cons, tg_nil, shr_non, shr_bl, shr_int, shr_str, shr_ty, shr_tup, shr_lst, shr_fz, shr_dct, shr_loc, shr_fr, List.map_cons, List.map_nil, List.length_cons, List.length_nil, List.cons_append, List.nil_append, List.replicate_succ, List.replicate_zero, List.set_cons_zero, List.set_cons_succ, Nat.zero_add, Nat.reduceAdd, Nat.reduceSub]
  generalize hL : (rngD 0 ps.length 1).filter (has1B m ps) = L
  have memL : ∀ x ∈ L, ∃ r : Int, x = .int r ∧ 0 ≤ r ∧ r < ps.length ∧ has1 m ps r := fun x hx => by
    rw [← hL] at hx
    obtain ⟨h1, h2⟩ := List.mem_filter.mp hx
    obtain ⟨j, rfl, j0, j1⟩ := rng_mem h1
    exact ⟨j, rfl, by omega, by omega, of_decide_eq_true h2⟩
  refine for_cut gm (M1 := M1) L [] ?_ (fun i σ M' => M' = M1 ∧ ∃ c3 c4 c6 c7 c8 : Option D, σ = [some (netD m ps), some (.lst ((Ts m ps 0).map tupI)), some (.lst L), c3, c4, none, c6, c7, c8, none]) ⟨rfl, _, _, _, _, _, rfl⟩ (fun _ _ _ _ g hg => nomatch hg) ?_ ?_
  · simp only [wss, ws, wp.eq_1, wp.eq_2, wp.eq_3, wp.eq_4, wp.eq_5, wp.eq_6, wp.eq_7, wp.eq_8, wp.eq_9, wp.eq_10, wp.eq_11, wp.eq_12, wp.eq_13, wp.eq_14, wp.eq_15, wp.eq_16, wp.eq_17, wp.eq_18, wp.eq_19, wp.eq_20, wp.eq_22, wp.eq_23, wp.eq_24, wp.eq_25, wps, wpO, wpK, wpP, wpC, wpI, wpTg.eq_1, tg_tup, tg_fl, tg_cons, tg_nil, bodyPo, startD, shr_non, shr_bl, shr_int, shr_str, shr_ty, shr_tup, shr_lst, shr_fz, shr_dct, shr_loc, shr_fr, truth_bl, true_and, add_ii, sub_ii, mul_ii, fdiv_ii, mod_ii, pow_ii, lt_ii, le_ii, gt_ii, ge_ii, len_t, abs_i, int_i, int_b, Es.len, List.map_cons, List.map_nil, List.length_cons, List.length_nil, List.cons_append, List.nil_append, List.replicate_succ, List.replicate_zero, List.getElem?_cons_zero, List.getElem?_cons_succ, List.set_cons_zero, List.set_cons_succ, Option.some.injEq, exists_eq_left', Nat.zero_add, Nat.reduceAdd, Nat.reduceSub, eq_iff, ne_iff, ess_iff, nss_iff, max_iff, min_iff, isA_int, isA_bool, isA_tuple, isA_list, isA_str, okD_shr, ix0_2, ix1_2, ix0_3, ix1_3, ix2_3, ix0_1, decide_eq_true_eq, Bool.not_eq_true', Bool.not_eq_false', Bool.not_not, Bool.not_true, Bool.not_false, decide_eq_false_iff_not, List.cons.injEq, and_true, exists_and_left, exists_eq_left, exists_eq_right, D.int.injEq, if_true, if_false, Bool.false_eq_true, reduceCtorEq, ite_true, ite_false, D.tup.injEq, D.bl.injEq, D.str.injEq, Int.cast_ofNat_Int, Int.reduceEq, not_true_eq_false, not_false_eq_true, wipeD, List.foldr_cons, List.foldr_nil, add_tt, addll_iff, slt_iff, sll_iff, lstt_iff, lstl_iff, tupt_iff, tupl_iff, len_l, sizeLine_eq, Nat.reduceLeDiff]
    exact it_l (by simp)
  · rintro σ M' ⟨rfl, c3, c4, c6, c7, c8, rfl⟩
    simp only [wss, ws, wp.eq_1, wp.eq_2, wp.eq_3, wp.eq_4, wp.eq_5, wp.eq_6, wp.eq_7, wp.eq_8, wp.eq_9, wp.eq_10, wp.eq_11, wp.eq_12, wp.eq_13, wp.eq_14, wp.eq_15, wp.eq_16, wp.eq_17, wp.eq_18, wp.eq_19, wp.eq_20, wp.eq_22, wp.eq_23, wp.eq_24, wp.eq_25, wps, wpO, wpK, wpP, wpC, wpI, wpTg.eq_1, tg_tup, tg_fl, tg_cons, tg_nil, bodyPo, startD, shr_non, shr_bl, shr_int, shr_str, shr_ty, shr_tup, shr_lst, shr_fz, shr_dct, shr_loc, shr_fr, truth_bl, true_and, add_ii, sub_ii, mul_ii, fdiv_ii, mod_ii, pow_ii, lt_ii, le_ii, gt_ii, ge_ii, len_t, abs_i, int_i, int_b, Es.len, List.map_cons, List.map_nil, List.length_cons, List.length_nil, List.cons_append, List.nil_append, List.replicate_succ, List.replicate_zero, List.getElem?_cons_zero, List.getElem?_cons_succ, List.set_cons_zero, List.set_cons_succ, Option.some.injEq, exists_eq_left', Nat.zero_add, Nat.reduceAdd, Nat.reduceSub, eq_iff, ne_iff, ess_iff, nss_iff, max_iff, min_iff, isA_int, isA_bool, isA_tuple, isA_list, isA_str, okD_shr, ix0_2, ix1_2, ix0_3, ix1_3, ix2_3, ix0_1, decide_eq_true_eq, Bool.not_eq_true', Bool.not_eq_false', Bool.not_not, Bool.not_true, Bool.not_false, decide_eq_false_iff_not, List.cons.injEq, and_true, exists_and_left, exists_eq_left, exists_eq_right, D.int.injEq, if_true, if_false, Bool.false_eq_true, reduceCtorEq, ite_true, ite_false, D.tup.injEq, D.bl.injEq, D.str.injEq, Int.cast_ofNat_Int, Int.reduceEq, not_true_eq_false, not_false_eq_true, wipeD, List.foldr_cons, List.foldr_nil, add_tt, addll_iff, slt_iff, sll_iff, lstt_iff, lstl_iff, tupt_iff, tupl_iff, len_l, sizeLine_eq, Nat.reduceLeDiff]
    exact ret_same rfl q
  rintro i x σ M' hx ⟨rfl, c3, c4, c6, c7, c8, rfl⟩
  obtain ⟨a, rfl, a0, a1, ha⟩ := memL x (List.mem_of_getElem? hx)
  simp only [startD, wpTg.eq_1, tg_tup, tg_fl, tg_cons, tg_nil, shr_non, shr_bl, shr_int, shr_str, shr_ty, shr_tup, shr_lst, shr_fz, shr_dct, shr_loc, shr_fr, List.map_cons, List.map_nil, List.length_cons, List.length_nil, List.cons_append, List.nil_append, List.replicate_succ, List.replicate_zero, List.set_cons_zero, List.set_cons_succ, Nat.zero_add, Nat.reduceAdd, Nat.reduceSub]
  refine for_cut gm (M1 := M') L [] ?_ (fun i σ M2 => M2 = M' ∧ ∃ c4 c6 c7 c8 : Option D, σ = [some (netD m ps), some (.lst ((Ts m ps 0).map tupI)), some (.lst L), some (.int a), c4, none, c6, c7, c8, none]) ⟨rfl, _, _, _, _, rfl⟩ (fun _ _ _ _ g hg => nomatch hg) ?_ ?_
  · simp only [wss, ws, wp.eq_1, wp.eq_2, wp.eq_3, wp.eq_4, wp.eq_5, wp.eq_6, wp.eq_7, wp.eq_8, wp.eq_9, wp.eq_10, wp.eq_11, wp.eq_12, wp.eq_13, wp.eq_14, wp.eq_15, wp.eq_16, wp.eq_17, wp.eq_18, wp.eq_19, wp.eq_20, wp.eq_22, wp.eq_23, wp.eq_24, wp.eq_25, wps, wpO, wpK, wpP, wpC, wpI, wpTg.eq_1, tg_tup, tg_fl, tg_cons, tg_nil, bodyPo, startD, shr_non, shr_bl, shr_int, shr_str, shr_ty, shr_tup, shr_lst, shr_fz, shr_dct, shr_loc, shr_fr, truth_bl, true_and, add_ii, sub_ii, mul_ii, fdiv_ii, mod_ii, pow_ii, lt_ii, le_ii, gt_ii, ge_ii, len_t, abs_i, int_i, int_b, Es.len, List.map_cons, List.map_nil, List.length_cons, List.length_nil, List.cons_append, List.nil_append, List.replicate_succ, List.replicate_zero, List.getElem?_cons_zero, List.getElem?_cons_succ, List.set_cons_zero, List.set_cons_succ, Option.some.injEq, exists_eq_left', Nat.zero_add, Nat.reduceAdd, Nat.reduceSub, eq_iff, ne_iff, ess_iff, nss_iff, max_iff, min_iff, isA_int, isA_bool, isA_tuple, isA_list, isA_str, okD_shr, ix0_2, ix1_2, ix0_3, ix1_3, ix2_3, ix0_1, decide_eq_true_eq, Bool.not_eq_true', Bool.not_eq_false', Bool.not_not, Bool.not_true, Bool.not_false, decide_eq_false_iff_not, List.cons.injEq, and_true, exists_and_left, exists_eq_left, exists_eq_right, D.int.injEq, if_true, if_false, Bool.false_eq_true, reduceCtorEq, ite_true, ite_false, D.tup.injEq, D.bl.injEq, D.str.injEq, Int.cast_ofNat_Int, Int.reduceEq, not_true_eq_false, not_false_eq_true, wipeD, List.foldr_cons, List.foldr_nil, add_tt, addll_iff, slt_iff, sll_iff, lstt_iff, lstl_iff, tupt_iff, tupl_iff, len_l, sizeLine_eq, Nat.reduceLeDiff]
    exact it_l (by simp)
  · rintro σ M2 ⟨rfl, c4, c6, c7, c8, rfl⟩
    exact ⟨rfl, _, _, _, _, _, rfl⟩
  rintro j y σ M2 hy ⟨rfl, c4, c6, c7, c8, rfl⟩
  obtain ⟨b, rfl, b0, b1, hb⟩ := memL y (List.mem_of_getElem? hy)
  obtain ⟨p, hp⟩ : ∃ p, ps[a.toNat]? = some p := ⟨_, List.getElem?_eq_getElem (by omega)⟩
  obtain ⟨r, hr⟩ : ∃ r, ps[b.toNat]? = some r := ⟨_, List.getElem?_eq_getElem (by omega)⟩
  have up := u p (List.mem_of_getElem? hp)
  have ur := u r (List.mem_of_getElem? hr)
  have asc : ∀ q ∈ ps, q.1 < q.2 := fun q hq => (u q hq).2.1
  have key := has2_iff hp hr ha hb
  simp only [startD, wpTg.eq_1, tg_tup, tg_fl, tg_cons, tg_nil, shr_non, shr_bl, shr_int, shr_str, shr_ty, shr_tup, shr_lst, shr_fz, shr_dct, shr_loc, shr_fr, List.map_cons, List.map_nil, List.length_cons, List.length_nil, List.cons_append, List.nil_append, List.replicate_succ, List.replicate_zero, List.set_cons_zero, List.set_cons_succ, Nat.zero_add, Nat.reduceAdd, Nat.reduceSub]
  have h2B : ((Ts m ps 0).any fun t => inT a (tupI t) && inT b (tupI t)) = decide (has2 m ps a b) := by
    rw [Bool.eq_iff_iff, List.any_eq_true, decide_eq_true_iff]
    constructor
    · rintro ⟨t, ht, hi⟩
      rw [Bool.and_eq_true, inT_tupI, inT_tupI] at hi
      exact ⟨t, (mem t).mp ht, of_decide_eq_true hi.1, of_decide_eq_true hi.2⟩
    · rintro ⟨t, ht, h1, h2⟩
      exact ⟨t, (mem t).mpr ht, by rw [Bool.and_eq_true, inT_tupI, inT_tupI]; exact ⟨decide_eq_true h1, decide_eq_true h2⟩⟩
  refine asg_cut gm (R := fun d M1 => d = .bl (decide (has2 m ps a b)) ∧ M1 = M2) ?_ ?_
  · simp only [wss, ws, wp.eq_1, wp.eq_2, wp.eq_3, wp.eq_4, wp.eq_5, wp.eq_6, wp.eq_7, wp.eq_8, wp.eq_9, wp.eq_10, wp.eq_11, wp.eq_12, wp.eq_13, wp.eq_14, wp.eq_15, wp.eq_16, wp.eq_17, wp.eq_18, wp.eq_19, wp.eq_20, wp.eq_22, wp.eq_23, wp.eq_24, wp.eq_25, wps, wpO, wpK, wpP, wpC, wpI, wpTg.eq_1, tg_tup, tg_fl, tg_cons, tg_nil, bodyPo, startD, shr_non, shr_bl, shr_int, shr_str, shr_ty, shr_tup, shr_lst, shr_fz, shr_dct, shr_loc, shr_fr, truth_bl, true_and, add_ii, sub_ii, mul_ii, fdiv_ii, mod_ii, pow_ii, lt_ii, le_ii, gt_ii, ge_ii, len_t, abs_i, int_i, int_b, Es.len, List.map_cons, List.map_nil, List.length_cons, List.length_nil, List.cons_append, List.nil_append, List.replicate_succ, List.replicate_zero, List.getElem?_cons_zero, List.getElem?_cons_succ, List.set_cons_zero, List.set_cons_succ, Option.some.injEq, exists_eq_left', Nat.zero_add, Nat.reduceAdd, Nat.reduceSub, eq_iff, ne_iff, ess_iff, nss_iff, max_iff, min_iff, isA_int, isA_bool, isA_tuple, isA_list, isA_str, okD_shr, ix0_2, ix1_2, ix0_3, ix1_3, ix2_3, ix0_1, decide_eq_true_eq, Bool.not_eq_true', Bool.not_eq_false', Bool.not_not, Bool.not_true, Bool.not_false, decide_eq_false_iff_not, List.cons.injEq, and_true, exists_and_left, exists_eq_left, exists_eq_right, D.int.injEq, if_true, if_false, Bool.false_eq_true, reduceCtorEq, ite_true, ite_false, D.tup.injEq, D.bl.injEq, D.str.injEq, Int.cast_ofNat_Int, Int.reduceEq, not_true_eq_false, not_false_eq_true, wipeD, List.foldr_cons, List.foldr_nil, add_tt, addll_iff, slt_iff, sll_iff, lstt_iff, lstl_iff, tupt_iff, tupl_iff, len_l, sizeLine_eq, Nat.reduceLeDiff]
    refine lc_cut gm (xs := (Ts m ps 0).map tupI) (gd := []) (fun x => inT a x && inT b x) (fun x => x) ?_ (fun g hg => nomatch hg) ?_ (by rw [List.length_map]; omega) ?_
    · simp only [wss, ws, wp.eq_1, wp.eq_2, wp.eq_3, wp.eq_4, wp.eq_5, wp.eq_6, wp.eq_7, wp.eq_8, wp.eq_9, wp.eq_10, wp.eq_11, wp.eq_12, wp.eq_13, wp.eq_14, wp.eq_15, wp.eq_16, wp.eq_17, wp.eq_18, wp.eq_19, wp.eq_20, wp.eq_22, wp.eq_23, wp.eq_24, wp.eq_25, wps, wpO, wpK, wpP, wpC, wpI, wpTg.eq_1, tg_tup, tg_fl, tg_cons, tg_nil, bodyPo, startD, shr_non, shr_bl, shr_int, shr_str, shr_ty, shr_tup, shr_lst, shr_fz, shr_dct, shr_loc, shr_fr, truth_bl, true_and, add_ii, sub_ii, mul_ii, fdiv_ii, mod_ii, pow_ii, lt_ii, le_ii, gt_ii, ge_ii, len_t, abs_i, int_i, int_b, Es.len, List.map_cons, List.map_nil, List.length_cons, List.length_nil, List.cons_append, List.nil_append, List.replicate_succ, List.replicate_zero, List.getElem?_cons_zero, List.getElem?_cons_succ, List.set_cons_zero, List.set_cons_succ, Option.some.injEq, exists_eq_left', Nat.zero_add, Nat.reduceAdd, Nat.reduceSub, eq_iff, ne_iff, ess_iff, nss_iff, max_iff, min_iff, isA_int, isA_bool, isA_tuple, isA_list, isA_str, okD_shr, ix0_2, ix1_2, ix0_3, ix1_3, ix2_3, ix0_1, decide_eq_true_eq, Bool.not_eq_true', Bool.not_eq_false', Bool.not_not, Bool.not_true, Bool.not_false, decide_eq_false_iff_not, List.cons.injEq, and_true, exists_and_left, exists_eq_left, exists_eq_right, D.int.injEq, if_true, if_false, Bool.false_eq_true, reduceCtorEq, ite_true, ite_false, D.tup.injEq, D.bl.injEq, D.str.injEq, Int.cast_ofNat_Int, Int.reduceEq, not_true_eq_false, not_false_eq_true, wipeD, List.foldr_cons, List.foldr_nil, add_tt, addll_iff, slt_iff, sll_iff, lstt_iff, lstl_iff, tupt_iff, tupl_iff, len_l, sizeLine_eq, Nat.reduceLeDiff]
      exact it_l (by simp)
    · intro j y hy
      rw [List.getElem?_map] at hy
      obtain ⟨t, ht, rfl⟩ := Option.map_eq_some_iff.mp hy
      simp only [wss, ws, wp.eq_1, wp.eq_2, wp.eq_3, wp.eq_4, wp.eq_5, wp.eq_6, wp.eq_7, wp.eq_8, wp.eq_9, wp.eq_10, wp.eq_11, wp.eq_12, wp.eq_13, wp.eq_14, wp.eq_15, wp.eq_16, wp.eq_17, wp.eq_18, wp.eq_19, wp.eq_20, wp.eq_22, wp.eq_23, wp.eq_24, wp.eq_25, wps, wpO, wpK, wpP, wpC, wpI, wpTg.eq_1, tg_tup, tg_fl, tg_cons, tg_nil, bodyPo, startD, shr_non, shr_bl, shr_int, shr_str, shr_ty, shr_tup, shr_lst, shr_fz, shr_dct, shr_loc, shr_fr, truth_bl, true_and, add_ii, sub_ii, mul_ii, fdiv_ii, mod_ii, pow_ii, lt_ii, le_ii, gt_ii, ge_ii, len_t, abs_i, int_i, int_b, Es.len, List.map_cons, List.map_nil, List.length_cons, List.length_nil, List.cons_append, List.nil_append, List.replicate_succ, List.replicate_zero, List.getElem?_cons_zero, List.getElem?_cons_succ, List.set_cons_zero, List.set_cons_succ, Option.some.injEq, exists_eq_left', Nat.zero_add, Nat.reduceAdd, Nat.reduceSub, eq_iff, ne_iff, ess_iff, nss_iff, max_iff, min_iff, isA_int, isA_bool, isA_tuple, isA_list, isA_str, okD_shr, ix0_2, ix1_2, ix0_3, ix1_3, ix2_3, ix0_1, decide_eq_true_eq, Bool.not_eq_true', Bool.not_eq_false', Bool.not_not, Bool.not_true, Bool.not_false, decide_eq_false_iff_not, List.cons.injEq, and_true, exists_and_left, exists_eq_left, exists_eq_right, D.int.injEq, if_true, if_false, Bool.false_eq_true, reduceCtorEq, ite_true, ite_false, D.tup.injEq, D.bl.injEq, D.str.injEq, Int.cast_ofNat_Int, Int.reduceEq, not_true_eq_false, not_false_eq_true, wipeD, List.foldr_cons, List.foldr_nil, add_tt, addll_iff, slt_iff, sll_iff, lstt_iff, lstl_iff, tupt_iff, tupl_iff, len_l, sizeLine_eq, Nat.reduceLeDiff, wpK, est]
      refine in_tupI ?_
      split
      · rename_i hi
        refine in_tupI ⟨?_, fun _ => trivial⟩
        rw [inT_tupI, inT_tupI, hi, Bool.true_and]
      · rename_i hi
        refine ⟨?_, fun _ => trivial⟩
        rw [inT_tupI, (Bool.not_eq_true _).mp hi, Bool.false_and]
    · simp only [wss, ws, wp.eq_1, wp.eq_2, wp.eq_3, wp.eq_4, wp.eq_5, wp.eq_6, wp.eq_7, wp.eq_8, wp.eq_9, wp.eq_10, wp.eq_11, wp.eq_12, wp.eq_13, wp.eq_14, wp.eq_15, wp.eq_16, wp.eq_17, wp.eq_18, wp.eq_19, wp.eq_20, wp.eq_22, wp.eq_23, wp.eq_24, wp.eq_25, wps, wpO, wpK, wpP, wpC, wpI, wpTg.eq_1, tg_tup, tg_fl, tg_cons, tg_nil, bodyPo, startD, shr_non, shr_bl, shr_int, shr_str, shr_ty, shr_tup, shr_lst, shr_fz, shr_dct, shr_loc, shr_fr, truth_bl, true_and, add_ii, sub_ii, mul_ii, fdiv_ii, mod_ii, pow_ii, lt_ii, le_ii, gt_ii, ge_ii, len_t, abs_i, int_i, int_b, Es.len, List.map_cons, List.map_nil, List.length_cons, List.length_nil, List.cons_append, List.nil_append, List.replicate_succ, List.replicate_zero, List.getElem?_cons_zero, List.getElem?_cons_succ, List.set_cons_zero, List.set_cons_succ, Option.some.injEq, exists_eq_left', Nat.zero_add, Nat.reduceAdd, Nat.reduceSub, eq_iff, ne_iff, ess_iff, nss_iff, max_iff, min_iff, isA_int, isA_bool, isA_tuple, isA_list, isA_str, okD_shr, ix0_2, ix1_2, ix0_3, ix1_3, ix2_3, ix0_1, decide_eq_true_eq, Bool.not_eq_true', Bool.not_eq_false', Bool.not_not, Bool.not_true, Bool.not_false, decide_eq_false_iff_not, List.cons.injEq, and_true, exists_and_left, exists_eq_left, exists_eq_right, D.int.injEq, if_true, if_false, Bool.false_eq_true, reduceCtorEq, ite_true, ite_false, D.tup.injEq, D.bl.injEq, D.str.injEq, Int.cast_ofNat_Int, Int.reduceEq, not_true_eq_false, not_false_eq_true, wipeD, List.foldr_cons, List.foldr_nil, add_tt, addll_iff, slt_iff, sll_iff, lstt_iff, lstl_iff, tupt_iff, tupl_iff, len_l, sizeLine_eq, Nat.reduceLeDiff]
      refine ne_filt ?_
      exact h2B
  rintro d M1 ⟨rfl, rfl⟩
  simp only [startD, wpTg.eq_1, tg_tup, tg_fl, tg_cons, tg_nil, shr_non, shr_bl, shr_int, shr_str, shr_ty, shr_tup, shr_lst, shr_fz, shr_dct, shr_loc, shr_fr, List.map_cons, List.map_nil, List.length_cons, List.length_nil, List.cons_append, List.nil_append, List.replicate_succ, List.replicate_zero, List.set_cons_zero, List.set_cons_succ, Nat.zero_add, Nat.reduceAdd, Nat.reduceSub]
  have ask : ∀ {X : XP} {Q' : Kd} {a b : Int} {p q : Int × Int}, 0 ≤ a → 0 ≤ b → ps[a.toNat]? = some p → ps[b.toNat]? = some q → (∀ t : Bool, (t = true ↔ Reach ps p.2 q.1) → Q' (.bl t) M1) → Γ "leads" [netD m ps, .int a, .int b] M1 X Q' := fun {X Q' a b p r} a0 b0 hp hr k => by
    rw [hd]; exact ⟨m, ps, a, b, p, r, rfl, by omega, u, a0, b0, hp, hr, k⟩
  refine asg_cut gm (R := fun d M2 => M2 = M1 ∧ ∃ t1 t2 : Bool, d = .tup [.bl t1, .bl t2] ∧ (t1 = true ↔ Reach ps p.2 r.1) ∧ (t2 = true ↔ Reach ps r.2 p.1)) ?_ ?_
  · simp only [wss, ws, wp.eq_1, wp.eq_2, wp.eq_3, wp.eq_4, wp.eq_5, wp.eq_6, wp.eq_7, wp.eq_8, wp.eq_9, wp.eq_10, wp.eq_11, wp.eq_12, wp.eq_13, wp.eq_14, wp.eq_15, wp.eq_16, wp.eq_17, wp.eq_18, wp.eq_19, wp.eq_20, wp.eq_22, wp.eq_23, wp.eq_24, wp.eq_25, wps, wpO, wpK, wpP, wpC, wpI, wpTg.eq_1, tg_tup, tg_fl, tg_cons, tg_nil, bodyPo, startD, shr_non, shr_bl, shr_int, shr_str, shr_ty, shr_tup, shr_lst, shr_fz, shr_dct, shr_loc, shr_fr, truth_bl, true_and, add_ii, sub_ii, mul_ii, fdiv_ii, mod_ii, pow_ii, lt_ii, le_ii, gt_ii, ge_ii, len_t, abs_i, int_i, int_b, Es.len, List.map_cons, List.map_nil, List.length_cons, List.length_nil, List.cons_append, List.nil_append, List.replicate_succ, List.replicate_zero, List.getElem?_cons_zero, List.getElem?_cons_succ, List.set_cons_zero, List.set_cons_succ, Option.some.injEq, exists_eq_left', Nat.zero_add, Nat.reduceAdd, Nat.reduceSub, eq_iff, ne_iff, ess_iff, nss_iff, max_iff, min_iff, isA_int, isA_bool, isA_tuple, isA_list, isA_str, okD_shr, ix0_2, ix1_2, ix0_3, ix1_3, ix2_3, ix0_1, decide_eq_true_eq, Bool.not_eq_true', Bool.not_eq_false', Bool.not_not, Bool.not_true, Bool.not_false, decide_eq_false_iff_not, List.cons.injEq, and_true, exists_and_left, exists_eq_left, exists_eq_right, D.int.injEq, if_true, if_false, Bool.false_eq_true, reduceCtorEq, ite_true, ite_false, D.tup.injEq, D.bl.injEq, D.str.injEq, Int.cast_ofNat_Int, Int.reduceEq, not_true_eq_false, not_false_eq_true, wipeD, List.foldr_cons, List.foldr_nil, add_tt, addll_iff, slt_iff, sll_iff, lstt_iff, lstl_iff, tupt_iff, tupl_iff, len_l, sizeLine_eq, Nat.reduceLeDiff, esh]
    refine ask a0 b0 hp hr fun t1 h1 => ?_
    simp only [wss, ws, wp.eq_1, wp.eq_2, wp.eq_3, wp.eq_4, wp.eq_5, wp.eq_6, wp.eq_7, wp.eq_8, wp.eq_9, wp.eq_10, wp.eq_11, wp.eq_12, wp.eq_13, wp.eq_14, wp.eq_15, wp.eq_16, wp.eq_17, wp.eq_18, wp.eq_19, wp.eq_20, wp.eq_22, wp.eq_23, wp.eq_24, wp.eq_25, wps, wpO, wpK, wpP, wpC, wpI, wpTg.eq_1, tg_tup, tg_fl, tg_cons, tg_nil, bodyPo, startD, shr_non, shr_bl, shr_int, shr_str, shr_ty, shr_tup, shr_lst, shr_fz, shr_dct, shr_loc, shr_fr, truth_bl, true_and, add_ii, sub_ii, mul_ii, fdiv_ii, mod_ii, pow_ii, lt_ii, le_ii, gt_ii, ge_ii, len_t, abs_i, int_i, int_b, Es.len, List.map_cons, List.map_nil, List.length_cons, List.length_nil, List.cons_append, List.nil_append, List.replicate_succ, List.replicate_zero, List.getElem?_cons_zero, List.getElem?_cons_succ, List.set_cons_zero, List.set_cons_succ, Option.some.injEq, exists_eq_left', Nat.zero_add, Nat.reduceAdd, Nat.reduceSub, eq_iff, ne_iff, ess_iff, nss_iff, max_iff, min_iff, isA_int, isA_bool, isA_tuple, isA_list, isA_str, okD_shr, ix0_2, ix1_2, ix0_3, ix1_3, ix2_3, ix0_1, decide_eq_true_eq, Bool.not_eq_true', Bool.not_eq_false', Bool.not_not, Bool.not_true, Bool.not_false, decide_eq_false_iff_not, List.cons.injEq, and_true, exists_and_left, exists_eq_left, exists_eq_right, D.int.injEq, if_true, if_false, Bool.false_eq_true, reduceCtorEq, ite_true, ite_false, D.tup.injEq, D.bl.injEq, D.str.injEq, Int.cast_ofNat_Int, Int.reduceEq, not_true_eq_false, not_false_eq_true, wipeD, List.foldr_cons, List.foldr_nil, add_tt, addll_iff, slt_iff, sll_iff, lstt_iff, lstl_iff, tupt_iff, tupl_iff, len_l, sizeLine_eq, Nat.reduceLeDiff, esh]
    refine ask b0 a0 hr hp fun t2 h2 => ?_
    exact ⟨rfl, t1, t2, ⟨rfl, rfl⟩, h1, h2⟩
  rintro d M2 ⟨rfl, t1, t2, rfl, h1, h2⟩
  simp only [startD, wpTg.eq_1, tg_tup, tg_fl, tg_cons, tg_nil, shr_non, shr_bl, shr_int, shr_str, shr_ty, shr_tup, shr_lst, shr_fz, shr_dct, shr_loc, shr_fr, List.map_cons, List.map_nil, List.length_cons, List.length_nil, List.cons_append, List.nil_append, List.replicate_succ, List.replicate_zero, List.set_cons_zero, List.set_cons_succ, Nat.zero_add, Nat.reduceAdd, Nat.reduceSub]
  have both : decide (has2 m ps a b) = (decide (a = b) || (t1 || t2)) := by
    rw [Bool.eq_iff_iff, decide_eq_true_iff, key, Bool.or_eq_true, Bool.or_eq_true, decide_eq_true_iff, h1, h2]
  have never : ¬ (t1 = true ∧ t2 = true) := fun ⟨e1, e2⟩ => by
    have := (h1.mp e1).le asc
    have := (h2.mp e2).le asc
    omega
  rw [both]
  refine ite_cut gm (b := false) ?_ ?_
  · simp only [wss, ws, wp.eq_1, wp.eq_2, wp.eq_3, wp.eq_4, wp.eq_5, wp.eq_6, wp.eq_7, wp.eq_8, wp.eq_9, wp.eq_10, wp.eq_11, wp.eq_12, wp.eq_13, wp.eq_14, wp.eq_15, wp.eq_16, wp.eq_17, wp.eq_18, wp.eq_19, wp.eq_20, wp.eq_22, wp.eq_23, wp.eq_24, wp.eq_25, wps, wpO, wpK, wpP, wpC, wpI, wpTg.eq_1, tg_tup, tg_fl, tg_cons, tg_nil, bodyPo, startD, shr_non, shr_bl, shr_int, shr_str, shr_ty, shr_tup, shr_lst, shr_fz, shr_dct, shr_loc, shr_fr, truth_bl, true_and, add_ii, sub_ii, mul_ii, fdiv_ii, mod_ii, pow_ii, lt_ii, le_ii, gt_ii, ge_ii, len_t, abs_i, int_i, int_b, Es.len, List.map_cons, List.map_nil, List.length_cons, List.length_nil, List.cons_append, List.nil_append, List.replicate_succ, List.replicate_zero, List.getElem?_cons_zero, List.getElem?_cons_succ, List.set_cons_zero, List.set_cons_succ, Option.some.injEq, exists_eq_left', Nat.zero_add, Nat.reduceAdd, Nat.reduceSub, eq_iff, ne_iff, ess_iff, nss_iff, max_iff, min_iff, isA_int, isA_bool, isA_tuple, isA_list, isA_str, okD_shr, ix0_2, ix1_2, ix0_3, ix1_3, ix2_3, ix0_1, decide_eq_true_eq, Bool.not_eq_true', Bool.not_eq_false', Bool.not_not, Bool.not_true, Bool.not_false, decide_eq_false_iff_not, List.cons.injEq, and_true, exists_and_left, exists_eq_left, exists_eq_right, D.int.injEq, if_true, if_false, Bool.false_eq_true, reduceCtorEq, ite_true, ite_false, D.tup.injEq, D.bl.injEq, D.str.injEq, Int.cast_ofNat_Int, Int.reduceEq, not_true_eq_false, not_false_eq_true, wipeD, List.foldr_cons, List.foldr_nil, add_tt, addll_iff, slt_iff, sll_iff, lstt_iff, lstl_iff, tupt_iff, tupl_iff, len_l, sizeLine_eq, Nat.reduceLeDiff]
    by_cases c : a = b
    · rw [if_pos c, decide_eq_true c]
      cases t1 <;> cases t2 <;> first | exact absurd ⟨rfl, rfl⟩ never | (simp only [Bool.false_eq_true, if_true, if_false]; exact ne_bl rfl)
    · rw [if_neg c, decide_eq_false c]
      cases t1 <;> cases t2 <;> first | exact absurd ⟨rfl, rfl⟩ never | (simp only [Bool.false_eq_true, if_true, if_false]; exact ne_bl rfl)
  rw [if_neg Bool.false_ne_true]
  show wss Γ (.cons _ _) _ _ _
  refine ite_cut gm (b := false) ?_ ?_
  · simp only [wss, ws, wp.eq_1, wp.eq_2, wp.eq_3, wp.eq_4, wp.eq_5, wp.eq_6, wp.eq_7, wp.eq_8, wp.eq_9, wp.eq_10, wp.eq_11, wp.eq_12, wp.eq_13, wp.eq_14, wp.eq_15, wp.eq_16, wp.eq_17, wp.eq_18, wp.eq_19, wp.eq_20, wp.eq_22, wp.eq_23, wp.eq_24, wp.eq_25, wps, wpO, wpK, wpP, wpC, wpI, wpTg.eq_1, tg_tup, tg_fl, tg_cons, tg_nil, bodyPo, startD, shr_non, shr_bl, shr_int, shr_str, shr_ty, shr_tup, shr_lst, shr_fz, shr_dct, shr_loc, shr_fr, truth_bl, true_and, add_ii, sub_ii, mul_ii, fdiv_ii, mod_ii, pow_ii, lt_ii, le_ii, gt_ii, ge_ii, len_t, abs_i, int_i, int_b, Es.len, List.map_cons, List.map_nil, List.length_cons, List.length_nil, List.cons_append, List.nil_append, List.replicate_succ, List.replicate_zero, List.getElem?_cons_zero, List.getElem?_cons_succ, List.set_cons_zero, List.set_cons_succ, Option.some.injEq, exists_eq_left', Nat.zero_add, Nat.reduceAdd, Nat.reduceSub, eq_iff, ne_iff, ess_iff, nss_iff, max_iff, min_iff, isA_int, isA_bool, isA_tuple, isA_list, isA_str, okD_shr, ix0_2, ix1_2, ix0_3, ix1_3, ix2_3, ix0_1, decide_eq_true_eq, Bool.not_eq_true', Bool.not_eq_false', Bool.not_not, Bool.not_true, Bool.not_false, decide_eq_false_iff_not, List.cons.injEq, and_true, exists_and_left, exists_eq_left, exists_eq_right, D.int.injEq, if_true, if_false, Bool.false_eq_true, reduceCtorEq, ite_true, ite_false, D.tup.injEq, D.bl.injEq, D.str.injEq, Int.cast_ofNat_Int, Int.reduceEq, not_true_eq_false, not_false_eq_true, wipeD, List.foldr_cons, List.foldr_nil, add_tt, addll_iff, slt_iff, sll_iff, lstt_iff, lstl_iff, tupt_iff, tupl_iff, len_l, sizeLine_eq, Nat.reduceLeDiff, netD, ix_ps a0 hp (by omega), ix_ps b0 hr (by omega)]
    split
    · rename_i e
      have := (h1.mp e).le asc
      omega
    · rename_i e
      exact (Bool.not_eq_true _).mp e
  rw [if_neg Bool.false_ne_true]
  exact ⟨rfl, _, _, _, _, rfl⟩
end LK

set_option Elab.async false
set_option maxRecDepth 100000
set_option linter.all false
namespace LK
open PySem L2 Lay RZ PyProof.Rows
def sp_over : SD := fun ds M _ Q => ∃ (s : Dk) (m : Int) (ps : List (Int × Int)) (R : Mem), ds = [.loc 0, netD m ps] ∧ M = s.mem ++ R ∧ s.Ok ∧ ps.length ≤ 60 ∧ ps ≠ [] ∧ Up m ps ∧ ∀ s' : Dk, s'.Ok → Q (.bl true) (s'.mem ++ R)
theorem reach_road {ps : List (Int × Int)} {b : Int} {q : Int × Int} (hq : ps[b.toNat]? = some q) : Reach ps q.1 q.2 := .step .refl (List.mem_of_getElem? hq)
theorem Reach.trans {ps : List (Int × Int)} {a b c : Int} (h1 : Reach ps a b) (h2 : Reach ps b c) : Reach ps a c := by
  induction h2 with
  | refl => exact h1
  | step _ h ih => exact .step ih h
theorem w_law_goes_over (Γ : Gam) (gm : GMono Γ) (hd : Γ "_law_draw" = sp_draw) (hle : Γ "leads" = sp_leads) (ds : List D) (M : Mem) (X : XP) (Q : Kd) (hl : ds.length = sig_law_goes_over.ps.length) (h : sp_over ds M X Q) : wss Γ ir_law_goes_over (bodyPo M X Q) (startD cc_law_goes_over.N ds) M := by
  obtain ⟨s, m, ps, R, rfl, rfl, ok, hz, p0, u, q⟩ := h
  unfold ir_law_goes_over cc_law_goes_over
  have hsz : sizeLine = 16777216 := sizeLine_eq
  have esh : shr (netD m ps) = netD m ps := rfl
  have pl : 0 < ps.length := List.length_pos_iff.mpr p0
  simp only [startD, wpTg.eq_1, tg_tup, tg_fl, tg_cons, tg_nil, shr_non, shr_bl, shr_int, shr_str, shr_ty, shr_tup, shr_lst, shr_fz, shr_dct, shr_loc, shr_fr, List.map_cons, List.map_nil, List.length_cons, List.length_nil, List.cons_append, List.nil_append, List.replicate_succ, List.replicate_zero, List.set_cons_zero, List.set_cons_succ, Nat.zero_add, Nat.reduceAdd, Nat.reduceSub]
  refine for_cut gm (M1 := s.mem ++ R) (rngD 0 12 1) [] ?_ (fun i σ M' => ∃ (s' : Dk) (c2 c3 c4 c5 : Option D), M' = s'.mem ++ R ∧ s'.Ok ∧ σ = [some (.loc 0), some (netD m ps), c2, c3, c4, c5, none]) ⟨s, _, _, _, _, rfl, ok, rfl⟩ (fun _ _ _ _ g hg => nomatch hg) ?_ ?_
  · simp only [wss, ws, wp.eq_1, wp.eq_2, wp.eq_3, wp.eq_4, wp.eq_5, wp.eq_6, wp.eq_7, wp.eq_8, wp.eq_9, wp.eq_10, wp.eq_11, wp.eq_12, wp.eq_13, wp.eq_14, wp.eq_15, wp.eq_16, wp.eq_17, wp.eq_18, wp.eq_19, wp.eq_20, wp.eq_22, wp.eq_23, wp.eq_24, wp.eq_25, wps, wpO, wpK, wpP, wpC, wpI, wpTg.eq_1, tg_tup, tg_fl, tg_cons, tg_nil, bodyPo, startD, shr_non, shr_bl, shr_int, shr_str, shr_ty, shr_tup, shr_lst, shr_fz, shr_dct, shr_loc, shr_fr, truth_bl, true_and, add_ii, sub_ii, mul_ii, fdiv_ii, mod_ii, pow_ii, lt_ii, le_ii, gt_ii, ge_ii, len_t, abs_i, int_i, int_b, Es.len, List.map_cons, List.map_nil, List.length_cons, List.length_nil, List.cons_append, List.nil_append, List.replicate_succ, List.replicate_zero, List.getElem?_cons_zero, List.getElem?_cons_succ, List.set_cons_zero, List.set_cons_succ, Option.some.injEq, exists_eq_left', Nat.zero_add, Nat.reduceAdd, Nat.reduceSub, eq_iff, ne_iff, ess_iff, nss_iff, max_iff, min_iff, isA_int, isA_bool, isA_tuple, isA_list, isA_str, okD_shr, ix0_2, ix1_2, ix0_3, ix1_3, ix2_3, ix0_1, decide_eq_true_eq, Bool.not_eq_true', Bool.not_eq_false', Bool.not_not, Bool.not_true, Bool.not_false, decide_eq_false_iff_not, List.cons.injEq, and_true, exists_and_left, exists_eq_left, exists_eq_right, D.int.injEq, if_true, if_false, Bool.false_eq_true, reduceCtorEq, ite_true, ite_false, D.tup.injEq, D.bl.injEq, D.str.injEq, Int.cast_ofNat_Int, Int.reduceEq, not_true_eq_false, not_false_eq_true, wipeD, List.foldr_cons, List.foldr_nil, add_tt, addll_iff, slt_iff, sll_iff, lstt_iff, lstl_iff, tupt_iff, tupl_iff, len_l, sizeLine_eq, Nat.reduceLeDiff]
    exact ⟨12, rfl, by unfold small62; decide, rfl⟩
  · rintro σ M' ⟨s', c2, c3, c4, c5, rfl, ok', rfl⟩
    simp only [wss, ws, wp.eq_1, wp.eq_2, wp.eq_3, wp.eq_4, wp.eq_5, wp.eq_6, wp.eq_7, wp.eq_8, wp.eq_9, wp.eq_10, wp.eq_11, wp.eq_12, wp.eq_13, wp.eq_14, wp.eq_15, wp.eq_16, wp.eq_17, wp.eq_18, wp.eq_19, wp.eq_20, wp.eq_22, wp.eq_23, wp.eq_24, wp.eq_25, wps, wpO, wpK, wpP, wpC, wpI, wpTg.eq_1, tg_tup, tg_fl, tg_cons, tg_nil, bodyPo, startD, shr_non, shr_bl, shr_int, shr_str, shr_ty, shr_tup, shr_lst, shr_fz, shr_dct, shr_loc, shr_fr, truth_bl, true_and, add_ii, sub_ii, mul_ii, fdiv_ii, mod_ii, pow_ii, lt_ii, le_ii, gt_ii, ge_ii, len_t, abs_i, int_i, int_b, Es.len, List.map_cons, List.map_nil, List.length_cons, List.length_nil, List.cons_append, List.nil_append, List.replicate_succ, List.replicate_zero, List.getElem?_cons_zero, List.getElem?_cons_succ, List.set_cons_zero, List.set_cons_succ, Option.some.injEq, exists_eq_left', Nat.zero_add, Nat.reduceAdd, Nat.reduceSub, eq_iff, ne_iff, ess_iff, nss_iff, max_iff, min_iff, isA_int, isA_bool, isA_tuple, isA_list, isA_str, okD_shr, ix0_2, ix1_2, ix0_3, ix1_3, ix2_3, ix0_1, decide_eq_true_eq, Bool.not_eq_true', Bool.not_eq_false', Bool.not_not, Bool.not_true, Bool.not_false, decide_eq_false_iff_not, List.cons.injEq, and_true, exists_and_left, exists_eq_left, exists_eq_right, D.int.injEq, if_true, if_false, Bool.false_eq_true, reduceCtorEq, ite_true, ite_false, D.tup.injEq, D.bl.injEq, D.str.injEq, Int.cast_ofNat_Int, Int.reduceEq, not_true_eq_false, not_false_eq_true, wipeD, List.foldr_cons, List.foldr_nil, add_tt, addll_iff, slt_iff, sll_iff, lstt_iff, lstl_iff, tupt_iff, tupl_iff, len_l, sizeLine_eq, Nat.reduceLeDiff]
    exact ret_deck rfl (q s' ok')
  rintro i x σ M' hx ⟨s1, c2, c3, c4, c5, rfl, ok1, rfl⟩
  simp only [startD, wpTg.eq_1, tg_tup, tg_fl, tg_cons, tg_nil, shr_non, shr_bl, shr_int, shr_str, shr_ty, shr_tup, shr_lst, shr_fz, shr_dct, shr_loc, shr_fr, List.map_cons, List.map_nil, List.length_cons, List.length_nil, List.cons_append, List.nil_append, List.replicate_succ, List.replicate_zero, List.set_cons_zero, List.set_cons_succ, Nat.zero_add, Nat.reduceAdd, Nat.reduceSub]
  refine asg_cut gm (R := fun d M1 => ∃ (s' : Dk) (a b c : Int), d = .fr (.lst [.int a, .int b, .int c]) ∧ M1 = s'.mem ++ R ∧ s'.Ok ∧ (0 ≤ a ∧ a < ps.length) ∧ (0 ≤ b ∧ b < ps.length) ∧ 0 ≤ c ∧ c < ps.length) ?_ ?_
  · refine lc_inv gm (xs := rngD 0 3 1) (gd := []) (fun _ M' => ∃ s' : Dk, M' = s'.mem ++ R ∧ s'.Ok) (fun y => ∃ n, y = .int n ∧ 0 ≤ n ∧ n < ps.length) ?_ ⟨s1, rfl, ok1⟩ (fun _ _ _ g hg => nomatch hg) ?_ (by rw [rngD_len]; omega) ?_
    · simp only [wss, ws, wp.eq_1, wp.eq_2, wp.eq_3, wp.eq_4, wp.eq_5, wp.eq_6, wp.eq_7, wp.eq_8, wp.eq_9, wp.eq_10, wp.eq_11, wp.eq_12, wp.eq_13, wp.eq_14, wp.eq_15, wp.eq_16, wp.eq_17, wp.eq_18, wp.eq_19, wp.eq_20, wp.eq_22, wp.eq_23, wp.eq_24, wp.eq_25, wps, wpO, wpK, wpP, wpC, wpI, wpTg.eq_1, tg_tup, tg_fl, tg_cons, tg_nil, bodyPo, startD, shr_non, shr_bl, shr_int, shr_str, shr_ty, shr_tup, shr_lst, shr_fz, shr_dct, shr_loc, shr_fr, truth_bl, true_and, add_ii, sub_ii, mul_ii, fdiv_ii, mod_ii, pow_ii, lt_ii, le_ii, gt_ii, ge_ii, len_t, abs_i, int_i, int_b, Es.len, List.map_cons, List.map_nil, List.length_cons, List.length_nil, List.cons_append, List.nil_append, List.replicate_succ, List.replicate_zero, List.getElem?_cons_zero, List.getElem?_cons_succ, List.set_cons_zero, List.set_cons_succ, Option.some.injEq, exists_eq_left', Nat.zero_add, Nat.reduceAdd, Nat.reduceSub, eq_iff, ne_iff, ess_iff, nss_iff, max_iff, min_iff, isA_int, isA_bool, isA_tuple, isA_list, isA_str, okD_shr, ix0_2, ix1_2, ix0_3, ix1_3, ix2_3, ix0_1, decide_eq_true_eq, Bool.not_eq_true', Bool.not_eq_false', Bool.not_not, Bool.not_true, Bool.not_false, decide_eq_false_iff_not, List.cons.injEq, and_true, exists_and_left, exists_eq_left, exists_eq_right, D.int.injEq, if_true, if_false, Bool.false_eq_true, reduceCtorEq, ite_true, ite_false, D.tup.injEq, D.bl.injEq, D.str.injEq, Int.cast_ofNat_Int, Int.reduceEq, not_true_eq_false, not_false_eq_true, wipeD, List.foldr_cons, List.foldr_nil, add_tt, addll_iff, slt_iff, sll_iff, lstt_iff, lstl_iff, tupt_iff, tupl_iff, len_l, sizeLine_eq, Nat.reduceLeDiff]
      exact ⟨3, rfl, by unfold small62; decide, rfl⟩
    · rintro i x M2 hx ⟨s4, rfl, ok4⟩
      obtain ⟨hil, hx⟩ := rng1 (P := fun i x => x = .int (0 + (i : Int) * 1)) (fun i _ => rfl) i x hx
      subst hx
      simp only [wss, ws, wp.eq_1, wp.eq_2, wp.eq_3, wp.eq_4, wp.eq_5, wp.eq_6, wp.eq_7, wp.eq_8, wp.eq_9, wp.eq_10, wp.eq_11, wp.eq_12, wp.eq_13, wp.eq_14, wp.eq_15, wp.eq_16, wp.eq_17, wp.eq_18, wp.eq_19, wp.eq_20, wp.eq_22, wp.eq_23, wp.eq_24, wp.eq_25, wps, wpO, wpK, wpP, wpC, wpI, wpTg.eq_1, tg_tup, tg_fl, tg_cons, tg_nil, bodyPo, startD, shr_non, shr_bl, shr_int, shr_str, shr_ty, shr_tup, shr_lst, shr_fz, shr_dct, shr_loc, shr_fr, truth_bl, true_and, add_ii, sub_ii, mul_ii, fdiv_ii, mod_ii, pow_ii, lt_ii, le_ii, gt_ii, ge_ii, len_t, abs_i, int_i, int_b, Es.len, List.map_cons, List.map_nil, List.length_cons, List.length_nil, List.cons_append, List.nil_append, List.replicate_succ, List.replicate_zero, List.getElem?_cons_zero, List.getElem?_cons_succ, List.set_cons_zero, List.set_cons_succ, Option.some.injEq, exists_eq_left', Nat.zero_add, Nat.reduceAdd, Nat.reduceSub, eq_iff, ne_iff, ess_iff, nss_iff, max_iff, min_iff, isA_int, isA_bool, isA_tuple, isA_list, isA_str, okD_shr, ix0_2, ix1_2, ix0_3, ix1_3, ix2_3, ix0_1, decide_eq_true_eq, Bool.not_eq_true', Bool.not_eq_false', Bool.not_not, Bool.not_true, Bool.not_false, decide_eq_false_iff_not, List.cons.injEq, and_true, exists_and_left, exists_eq_left, exists_eq_right, D.int.injEq, if_true, if_false, Bool.false_eq_true, reduceCtorEq, ite_true, ite_false, D.tup.injEq, D.bl.injEq, D.str.injEq, Int.cast_ofNat_Int, Int.reduceEq, not_true_eq_false, not_false_eq_true, wipeD, List.foldr_cons, List.foldr_nil, add_tt, addll_iff, slt_iff, sll_iff, lstt_iff, lstl_iff, tupt_iff, tupl_iff, len_l, sizeLine_eq, Nat.reduceLeDiff, netD]
      rw [List.length_map]
      refine dr hd ok4 (by omega) fun v s5 ok5 v0 v1 => ?_
      simp only [wss, ws, wp.eq_1, wp.eq_2, wp.eq_3, wp.eq_4, wp.eq_5, wp.eq_6, wp.eq_7, wp.eq_8, wp.eq_9, wp.eq_10, wp.eq_11, wp.eq_12, wp.eq_13, wp.eq_14, wp.eq_15, wp.eq_16, wp.eq_17, wp.eq_18, wp.eq_19, wp.eq_20, wp.eq_22, wp.eq_23, wp.eq_24, wp.eq_25, wps, wpO, wpK, wpP, wpC, wpI, wpTg.eq_1, tg_tup, tg_fl, tg_cons, tg_nil, bodyPo, startD, shr_non, shr_bl, shr_int, shr_str, shr_ty, shr_tup, shr_lst, shr_fz, shr_dct, shr_loc, shr_fr, truth_bl, true_and, add_ii, sub_ii, mul_ii, fdiv_ii, mod_ii, pow_ii, lt_ii, le_ii, gt_ii, ge_ii, len_t, abs_i, int_i, int_b, Es.len, List.map_cons, List.map_nil, List.length_cons, List.length_nil, List.cons_append, List.nil_append, List.replicate_succ, List.replicate_zero, List.getElem?_cons_zero, List.getElem?_cons_succ, List.set_cons_zero, List.set_cons_succ, Option.some.injEq, exists_eq_left', Nat.zero_add, Nat.reduceAdd, Nat.reduceSub, eq_iff, ne_iff, ess_iff, nss_iff, max_iff, min_iff, isA_int, isA_bool, isA_tuple, isA_list, isA_str, okD_shr, ix0_2, ix1_2, ix0_3, ix1_3, ix2_3, ix0_1, decide_eq_true_eq, Bool.not_eq_true', Bool.not_eq_false', Bool.not_not, Bool.not_true, Bool.not_false, decide_eq_false_iff_not, List.cons.injEq, and_true, exists_and_left, exists_eq_left, exists_eq_right, D.int.injEq, if_true, if_false, Bool.false_eq_true, reduceCtorEq, ite_true, ite_false, D.tup.injEq, D.bl.injEq, D.str.injEq, Int.cast_ofNat_Int, Int.reduceEq, not_true_eq_false, not_false_eq_true, wipeD, List.foldr_cons, List.foldr_nil, add_tt, addll_iff, slt_iff, sll_iff, lstt_iff, lstl_iff, tupt_iff, tupl_iff, len_l, sizeLine_eq, Nat.reduceLeDiff]
      exact ⟨⟨s5, rfl, ok5⟩, v0, by omega⟩
    · rintro acc M2 ⟨s4, rfl, ok4⟩ hal hacc
      rw [rngD_len] at hal
      match acc, hal with
      | [x, y, z], _ =>
        obtain ⟨a, rfl, ha⟩ := hacc x (by simp)
        obtain ⟨b, rfl, hb⟩ := hacc y (by simp)
        obtain ⟨c, rfl, hc⟩ := hacc z (by simp)
        exact ⟨s4, a, b, c, rfl, rfl, ok4, ha, hb, hc.1, hc.2⟩
  rintro d M1 ⟨s2, a, b, c, rfl, rfl, ok2, ⟨a0, a1⟩, ⟨b0, b1⟩, c0, c1⟩
  simp only [startD, wpTg.eq_1, tg_tup, tg_fl, tg_cons, tg_nil, shr_non, shr_bl, shr_int, shr_str, shr_ty, shr_tup, shr_lst, shr_fz, shr_dct, shr_loc, shr_fr, List.map_cons, List.map_nil, List.length_cons, List.length_nil, List.cons_append, List.nil_append, List.replicate_succ, List.replicate_zero, List.set_cons_zero, List.set_cons_succ, Nat.zero_add, Nat.reduceAdd, Nat.reduceSub]
  obtain ⟨p, hp⟩ : ∃ p, ps[a.toNat]? = some p := ⟨_, List.getElem?_eq_getElem (by omega)⟩
  obtain ⟨r, hr⟩ : ∃ p, ps[b.toNat]? = some p := ⟨_, List.getElem?_eq_getElem (by omega)⟩
  obtain ⟨t, ht⟩ : ∃ p, ps[c.toNat]? = some p := ⟨_, List.getElem?_eq_getElem (by omega)⟩
  have ask : ∀ {X : XP} {Q' : Kd} {a b : Int} {p q : Int × Int}, 0 ≤ a → 0 ≤ b → ps[a.toNat]? = some p → ps[b.toNat]? = some q → (∀ t : Bool, (t = true ↔ Reach ps p.2 q.1) → Q' (.bl t) (s2.mem ++ R)) → Γ "leads" [netD m ps, .int a, .int b] (s2.mem ++ R) X Q' := fun {X Q' a b p r} a0 b0 hp hr k => by
    rw [hle]; exact ⟨m, ps, a, b, p, r, rfl, hz, u, a0, b0, hp, hr, k⟩
  refine ite_cut gm (b := false) ?_ ?_
  · simp only [wss, ws, wp.eq_1, wp.eq_2, wp.eq_3, wp.eq_4, wp.eq_5, wp.eq_6, wp.eq_7, wp.eq_8, wp.eq_9, wp.eq_10, wp.eq_11, wp.eq_12, wp.eq_13, wp.eq_14, wp.eq_15, wp.eq_16, wp.eq_17, wp.eq_18, wp.eq_19, wp.eq_20, wp.eq_22, wp.eq_23, wp.eq_24, wp.eq_25, wps, wpO, wpK, wpP, wpC, wpI, wpTg.eq_1, tg_tup, tg_fl, tg_cons, tg_nil, bodyPo, startD, shr_non, shr_bl, shr_int, shr_str, shr_ty, shr_tup, shr_lst, shr_fz, shr_dct, shr_loc, shr_fr, truth_bl, true_and, add_ii, sub_ii, mul_ii, fdiv_ii, mod_ii, pow_ii, lt_ii, le_ii, gt_ii, ge_ii, len_t, abs_i, int_i, int_b, Es.len, List.map_cons, List.map_nil, List.length_cons, List.length_nil, List.cons_append, List.nil_append, List.replicate_succ, List.replicate_zero, List.getElem?_cons_zero, List.getElem?_cons_succ, List.set_cons_zero, List.set_cons_succ, Option.some.injEq, exists_eq_left', Nat.zero_add, Nat.reduceAdd, Nat.reduceSub, eq_iff, ne_iff, ess_iff, nss_iff, max_iff, min_iff, isA_int, isA_bool, isA_tuple, isA_list, isA_str, okD_shr, ix0_2, ix1_2, ix0_3, ix1_3, ix2_3, ix0_1, decide_eq_true_eq, Bool.not_eq_true', Bool.not_eq_false', Bool.not_not, Bool.not_true, Bool.not_false, decide_eq_false_iff_not, List.cons.injEq, and_true, exists_and_left, exists_eq_left, exists_eq_right, D.int.injEq, if_true, if_false, Bool.false_eq_true, reduceCtorEq, ite_true, ite_false, D.tup.injEq, D.bl.injEq, D.str.injEq, Int.cast_ofNat_Int, Int.reduceEq, not_true_eq_false, not_false_eq_true, wipeD, List.foldr_cons, List.foldr_nil, add_tt, addll_iff, slt_iff, sll_iff, lstt_iff, lstl_iff, tupt_iff, tupl_iff, len_l, sizeLine_eq, Nat.reduceLeDiff, esh]
    refine ask a0 b0 hp hr fun t1 h1 => ?_
    simp only [wss, ws, wp.eq_1, wp.eq_2, wp.eq_3, wp.eq_4, wp.eq_5, wp.eq_6, wp.eq_7, wp.eq_8, wp.eq_9, wp.eq_10, wp.eq_11, wp.eq_12, wp.eq_13, wp.eq_14, wp.eq_15, wp.eq_16, wp.eq_17, wp.eq_18, wp.eq_19, wp.eq_20, wp.eq_22, wp.eq_23, wp.eq_24, wp.eq_25, wps, wpO, wpK, wpP, wpC, wpI, wpTg.eq_1, tg_tup, tg_fl, tg_cons, tg_nil, bodyPo, startD, shr_non, shr_bl, shr_int, shr_str, shr_ty, shr_tup, shr_lst, shr_fz, shr_dct, shr_loc, shr_fr, truth_bl, true_and, add_ii, sub_ii, mul_ii, fdiv_ii, mod_ii, pow_ii, lt_ii, le_ii, gt_ii, ge_ii, len_t, abs_i, int_i, int_b, Es.len, List.map_cons, List.map_nil, List.length_cons, List.length_nil, List.cons_append, List.nil_append, List.replicate_succ, List.replicate_zero, List.getElem?_cons_zero, List.getElem?_cons_succ, List.set_cons_zero, List.set_cons_succ, Option.some.injEq, exists_eq_left', Nat.zero_add, Nat.reduceAdd, Nat.reduceSub, eq_iff, ne_iff, ess_iff, nss_iff, max_iff, min_iff, isA_int, isA_bool, isA_tuple, isA_list, isA_str, okD_shr, ix0_2, ix1_2, ix0_3, ix1_3, ix2_3, ix0_1, decide_eq_true_eq, Bool.not_eq_true', Bool.not_eq_false', Bool.not_not, Bool.not_true, Bool.not_false, decide_eq_false_iff_not, List.cons.injEq, and_true, exists_and_left, exists_eq_left, exists_eq_right, D.int.injEq, if_true, if_false, Bool.false_eq_true, reduceCtorEq, ite_true, ite_false, D.tup.injEq, D.bl.injEq, D.str.injEq, Int.cast_ofNat_Int, Int.reduceEq, not_true_eq_false, not_false_eq_true, wipeD, List.foldr_cons, List.foldr_nil, add_tt, addll_iff, slt_iff, sll_iff, lstt_iff, lstl_iff, tupt_iff, tupl_iff, len_l, sizeLine_eq, Nat.reduceLeDiff, esh]
    cases t1 with
    | false => simp only [wss, ws, wp.eq_1, wp.eq_2, wp.eq_3, wp.eq_4, wp.eq_5, wp.eq_6, wp.eq_7, wp.eq_8, wp.eq_9, wp.eq_10, wp.eq_11, wp.eq_12, wp.eq_13, wp.eq_14, wp.eq_15, wp.eq_16, wp.eq_17, wp.eq_18, wp.eq_19, wp.eq_20, wp.eq_22, wp.eq_23, wp.eq_24, wp.eq_25, wps, wpO, wpK, wpP, wpC, wpI, wpTg.eq_1, tg_tup, tg_fl, tg_cons, tg_nil, bodyPo, startD, shr_non, shr_bl, shr_int, shr_str, shr_ty, shr_tup, shr_lst, shr_fz, shr_dct, shr_loc, shr_fr, truth_bl, true_and, add_ii, sub_ii, mul_ii, fdiv_ii, mod_ii, pow_ii, lt_ii, le_ii, gt_ii, ge_ii, len_t, abs_i, int_i, int_b, Es.len, List.map_cons, List.map_nil, List.length_cons, List.length_nil, List.cons_append, List.nil_append, List.replicate_succ, List.replicate_zero, List.getElem?_cons_zero, List.getElem?_cons_succ, List.set_cons_zero, List.set_cons_succ, Option.some.injEq, exists_eq_left', Nat.zero_add, Nat.reduceAdd, Nat.reduceSub, eq_iff, ne_iff, ess_iff, nss_iff, max_iff, min_iff, isA_int, isA_bool, isA_tuple, isA_list, isA_str, okD_shr, ix0_2, ix1_2, ix0_3, ix1_3, ix2_3, ix0_1, decide_eq_true_eq, Bool.not_eq_true', Bool.not_eq_false', Bool.not_not, Bool.not_true, Bool.not_false, decide_eq_false_iff_not, List.cons.injEq, and_true, exists_and_left, exists_eq_left, exists_eq_right, D.int.injEq, if_true, if_false, Bool.false_eq_true, reduceCtorEq, ite_true, ite_false, D.tup.injEq, D.bl.injEq, D.str.injEq, Int.cast_ofNat_Int, Int.reduceEq, not_true_eq_false, not_false_eq_true, wipeD, List.foldr_cons, List.foldr_nil, add_tt, addll_iff, slt_iff, sll_iff, lstt_iff, lstl_iff, tupt_iff, tupl_iff, len_l, sizeLine_eq, Nat.reduceLeDiff]
    | true =>
      simp only [wss, ws, wp.eq_1, wp.eq_2, wp.eq_3, wp.eq_4, wp.eq_5, wp.eq_6, wp.eq_7, wp.eq_8, wp.eq_9, wp.eq_10, wp.eq_11, wp.eq_12, wp.eq_13, wp.eq_14, wp.eq_15, wp.eq_16, wp.eq_17, wp.eq_18, wp.eq_19, wp.eq_20, wp.eq_22, wp.eq_23, wp.eq_24, wp.eq_25, wps, wpO, wpK, wpP, wpC, wpI, wpTg.eq_1, tg_tup, tg_fl, tg_cons, tg_nil, bodyPo, startD, shr_non, shr_bl, shr_int, shr_str, shr_ty, shr_tup, shr_lst, shr_fz, shr_dct, shr_loc, shr_fr, truth_bl, true_and, add_ii, sub_ii, mul_ii, fdiv_ii, mod_ii, pow_ii, lt_ii, le_ii, gt_ii, ge_ii, len_t, abs_i, int_i, int_b, Es.len, List.map_cons, List.map_nil, List.length_cons, List.length_nil, List.cons_append, List.nil_append, List.replicate_succ, List.replicate_zero, List.getElem?_cons_zero, List.getElem?_cons_succ, List.set_cons_zero, List.set_cons_succ, Option.some.injEq, exists_eq_left', Nat.zero_add, Nat.reduceAdd, Nat.reduceSub, eq_iff, ne_iff, ess_iff, nss_iff, max_iff, min_iff, isA_int, isA_bool, isA_tuple, isA_list, isA_str, okD_shr, ix0_2, ix1_2, ix0_3, ix1_3, ix2_3, ix0_1, decide_eq_true_eq, Bool.not_eq_true', Bool.not_eq_false', Bool.not_not, Bool.not_true, Bool.not_false, decide_eq_false_iff_not, List.cons.injEq, and_true, exists_and_left, exists_eq_left, exists_eq_right, D.int.injEq, if_true, if_false, Bool.false_eq_true, reduceCtorEq, ite_true, ite_false, D.tup.injEq, D.bl.injEq, D.str.injEq, Int.cast_ofNat_Int, Int.reduceEq, not_true_eq_false, not_false_eq_true, wipeD, List.foldr_cons, List.foldr_nil, add_tt, addll_iff, slt_iff, sll_iff, lstt_iff, lstl_iff, tupt_iff, tupl_iff, len_l, sizeLine_eq, Nat.reduceLeDiff, esh]
      refine ask b0 c0 hr ht fun t2 h2 => ?_
      simp only [wss, ws, wp.eq_1, wp.eq_2, wp.eq_3, wp.eq_4, wp.eq_5, wp.eq_6, wp.eq_7, wp.eq_8, wp.eq_9, wp.eq_10, wp.eq_11, wp.eq_12, wp.eq_13, wp.eq_14, wp.eq_15, wp.eq_16, wp.eq_17, wp.eq_18, wp.eq_19, wp.eq_20, wp.eq_22, wp.eq_23, wp.eq_24, wp.eq_25, wps, wpO, wpK, wpP, wpC, wpI, wpTg.eq_1, tg_tup, tg_fl, tg_cons, tg_nil, bodyPo, startD, shr_non, shr_bl, shr_int, shr_str, shr_ty, shr_tup, shr_lst, shr_fz, shr_dct, shr_loc, shr_fr, truth_bl, true_and, add_ii, sub_ii, mul_ii, fdiv_ii, mod_ii, pow_ii, lt_ii, le_ii, gt_ii, ge_ii, len_t, abs_i, int_i, int_b, Es.len, List.map_cons, List.map_nil, List.length_cons, List.length_nil, List.cons_append, List.nil_append, List.replicate_succ, List.replicate_zero, List.getElem?_cons_zero, List.getElem?_cons_succ, List.set_cons_zero, List.set_cons_succ, Option.some.injEq, exists_eq_left', Nat.zero_add, Nat.reduceAdd, Nat.reduceSub, eq_iff, ne_iff, ess_iff, nss_iff, max_iff, min_iff, isA_int, isA_bool, isA_tuple, isA_list, isA_str, okD_shr, ix0_2, ix1_2, ix0_3, ix1_3, ix2_3, ix0_1, decide_eq_true_eq, Bool.not_eq_true', Bool.not_eq_false', Bool.not_not, Bool.not_true, Bool.not_false, decide_eq_false_iff_not, List.cons.injEq, and_true, exists_and_left, exists_eq_left, exists_eq_right, D.int.injEq, if_true, if_false, Bool.false_eq_true, reduceCtorEq, ite_true, ite_false, D.tup.injEq, D.bl.injEq, D.str.injEq, Int.cast_ofNat_Int, Int.reduceEq, not_true_eq_false, not_false_eq_true, wipeD, List.foldr_cons, List.foldr_nil, add_tt, addll_iff, slt_iff, sll_iff, lstt_iff, lstl_iff, tupt_iff, tupl_iff, len_l, sizeLine_eq, Nat.reduceLeDiff, esh]
      cases t2 with
      | false => simp only [wss, ws, wp.eq_1, wp.eq_2, wp.eq_3, wp.eq_4, wp.eq_5, wp.eq_6, wp.eq_7, wp.eq_8, wp.eq_9, wp.eq_10, wp.eq_11, wp.eq_12, wp.eq_13, wp.eq_14, wp.eq_15, wp.eq_16, wp.eq_17, wp.eq_18, wp.eq_19, wp.eq_20, wp.eq_22, wp.eq_23, wp.eq_24, wp.eq_25, wps, wpO, wpK, wpP, wpC, wpI, wpTg.eq_1, tg_tup, tg_fl, tg_cons, tg_nil, bodyPo, startD, shr_non, shr_bl, shr_int, shr_str, shr_ty, shr_tup, shr_lst, shr_fz, shr_dct, shr_loc, shr_fr, truth_bl, true_and, add_ii, sub_ii, mul_ii, fdiv_ii, mod_ii, pow_ii, lt_ii, le_ii, gt_ii, ge_ii, len_t, abs_i, int_i, int_b, Es.len, List.map_cons, List.map_nil, List.length_cons, List.length_nil, List.cons_append, List.nil_append, List.replicate_succ, List.replicate_zero, List.getElem?_cons_zero, List.getElem?_cons_succ, List.set_cons_zero, List.set_cons_succ, Option.some.injEq, exists_eq_left', Nat.zero_add, Nat.reduceAdd, Nat.reduceSub, eq_iff, ne_iff, ess_iff, nss_iff, max_iff, min_iff, isA_int, isA_bool, isA_tuple, isA_list, isA_str, okD_shr, ix0_2, ix1_2, ix0_3, ix1_3, ix2_3, ix0_1, decide_eq_true_eq, Bool.not_eq_true', Bool.not_eq_false', Bool.not_not, Bool.not_true, Bool.not_false, decide_eq_false_iff_not, List.cons.injEq, and_true, exists_and_left, exists_eq_left, exists_eq_right, D.int.injEq, if_true, if_false, Bool.false_eq_true, reduceCtorEq, ite_true, ite_false, D.tup.injEq, D.bl.injEq, D.str.injEq, Int.cast_ofNat_Int, Int.reduceEq, not_true_eq_false, not_false_eq_true, wipeD, List.foldr_cons, List.foldr_nil, add_tt, addll_iff, slt_iff, sll_iff, lstt_iff, lstl_iff, tupt_iff, tupl_iff, len_l, sizeLine_eq, Nat.reduceLeDiff]
      | true =>
        simp only [wss, ws, wp.eq_1, wp.eq_2, wp.eq_3, wp.eq_4, wp.eq_5, wp.eq_6, wp.eq_7, wp.eq_8, wp.eq_9, wp.eq_10, wp.eq_11, wp.eq_12, wp.eq_13, wp.eq_14, wp.eq_15, wp.eq_16, wp.eq_17, wp.eq_18, wp.eq_19, wp.eq_20, wp.eq_22, wp.eq_23, wp.eq_24, wp.eq_25, wps, wpO, wpK, wpP, wpC, wpI, wpTg.eq_1, tg_tup, tg_fl, tg_cons, tg_nil, bodyPo, startD, shr_non, shr_bl, shr_int, shr_str, shr_ty, shr_tup, shr_lst, shr_fz, shr_dct, shr_loc, shr_fr, truth_bl, true_and, add_ii, sub_ii, mul_ii, fdiv_ii, mod_ii, pow_ii, lt_ii, le_ii, gt_ii, ge_ii, len_t, abs_i, int_i, int_b, Es.len, List.map_cons, List.map_nil, List.length_cons, List.length_nil, List.cons_append, List.nil_append, List.replicate_succ, List.replicate_zero, List.getElem?_cons_zero, List.getElem?_cons_succ, List.set_cons_zero, List.set_cons_succ, Option.some.injEq, exists_eq_left', Nat.zero_add, Nat.reduceAdd, Nat.reduceSub, eq_iff, ne_iff, ess_iff, nss_iff, max_iff, min_iff, isA_int, isA_bool, isA_tuple, isA_list, isA_str, okD_shr, ix0_2, ix1_2, ix0_3, ix1_3, ix2_3, ix0_1, decide_eq_true_eq, Bool.not_eq_true', Bool.not_eq_false', Bool.not_not, Bool.not_true, Bool.not_false, decide_eq_false_iff_not, List.cons.injEq, and_true, exists_and_left, exists_eq_left, exists_eq_right, D.int.injEq, if_true, if_false, Bool.false_eq_true, reduceCtorEq, ite_true, ite_false, D.tup.injEq, D.bl.injEq, D.str.injEq, Int.cast_ofNat_Int, Int.reduceEq, not_true_eq_false, not_false_eq_true, wipeD, List.foldr_cons, List.foldr_nil, add_tt, addll_iff, slt_iff, sll_iff, lstt_iff, lstl_iff, tupt_iff, tupl_iff, len_l, sizeLine_eq, Nat.reduceLeDiff, esh]
        refine ask a0 c0 hp ht fun t3 h3 => ?_
        have : t3 = true := h3.mpr (((h1.mp rfl).trans (reach_road hr)).trans (h2.mp rfl))
        subst this
        simp only [wss, ws, wp.eq_1, wp.eq_2, wp.eq_3, wp.eq_4, wp.eq_5, wp.eq_6, wp.eq_7, wp.eq_8, wp.eq_9, wp.eq_10, wp.eq_11, wp.eq_12, wp.eq_13, wp.eq_14, wp.eq_15, wp.eq_16, wp.eq_17, wp.eq_18, wp.eq_19, wp.eq_20, wp.eq_22, wp.eq_23, wp.eq_24, wp.eq_25, wps, wpO, wpK, wpP, wpC, wpI, wpTg.eq_1, tg_tup, tg_fl, tg_cons, tg_nil, bodyPo, startD, shr_non, shr_bl, shr_int, shr_str, shr_ty, shr_tup, shr_lst, shr_fz, shr_dct, shr_loc, shr_fr, truth_bl, true_and, add_ii, sub_ii, mul_ii, fdiv_ii, mod_ii, pow_ii, lt_ii, le_ii, gt_ii, ge_ii, len_t, abs_i, int_i, int_b, Es.len, List.map_cons, List.map_nil, List.length_cons, List.length_nil, List.cons_append, List.nil_append, List.replicate_succ, List.replicate_zero, List.getElem?_cons_zero, List.getElem?_cons_succ, List.set_cons_zero, List.set_cons_succ, Option.some.injEq, exists_eq_left', Nat.zero_add, Nat.reduceAdd, Nat.reduceSub, eq_iff, ne_iff, ess_iff, nss_iff, max_iff, min_iff, isA_int, isA_bool, isA_tuple, isA_list, isA_str, okD_shr, ix0_2, ix1_2, ix0_3, ix1_3, ix2_3, ix0_1, decide_eq_true_eq, Bool.not_eq_true', Bool.not_eq_false', Bool.not_not, Bool.not_true, Bool.not_false, decide_eq_false_iff_not, List.cons.injEq, and_true, exists_and_left, exists_eq_left, exists_eq_right, D.int.injEq, if_true, if_false, Bool.false_eq_true, reduceCtorEq, ite_true, ite_false, D.tup.injEq, D.bl.injEq, D.str.injEq, Int.cast_ofNat_Int, Int.reduceEq, not_true_eq_false, not_false_eq_true, wipeD, List.foldr_cons, List.foldr_nil, add_tt, addll_iff, slt_iff, sll_iff, lstt_iff, lstl_iff, tupt_iff, tupl_iff, len_l, sizeLine_eq, Nat.reduceLeDiff]
  rw [if_neg Bool.false_ne_true]
  exact ⟨s2, _, _, _, _, rfl, ok2, rfl⟩
end LK

set_option Elab.async false
set_option maxRecDepth 100000
set_option linter.all false
namespace LK
open PySem L2 Lay RZ PyProof.Rows
theorem eqv_ints : ∀ xs : List Int, PyData.eqvAll (xs.map PyData.int) (xs.map PyData.int) = true
  | [] => by simp [PyData.eqvAll]
  | x :: xs => by
    simp only [List.map_cons, PyData.eqvAll, Bool.and_eq_true]
    exact ⟨by rw [eqv_ii]; exact decide_eq_true rfl, eqv_ints xs⟩
theorem ne_tupI {t : List Int} {M : Mem} {Qb : Bool → Prop} (q : Qb false) : opC .ne (tupI t) (tupI t) M Qb :=
  .inr ⟨.tuple (t.map .int), .tuple (t.map .int), .tup (ints_py t), .tup (ints_py t), ints_shpT t, ints_shpT t, by
    show Qb (!PyData.eqvAll (t.map PyData.int) (t.map PyData.int))
    rw [eqv_ints]; exact q⟩
theorem ne_lstI {t : List Int} {M : Mem} {Qb : Bool → Prop} (q : Qb false) : opC .ne (.lst (t.map .int)) (.lst (t.map .int)) M Qb :=
  .inr ⟨.list (t.map .int), .list (t.map .int), .lst (ints_py t), .lst (ints_py t), ints_shp t, ints_shp t, by
    show Qb (!PyData.eqvAll (t.map PyData.int) (t.map PyData.int))
    rw [eqv_ints]; exact q⟩
theorem cut_at {xs : List D} {k i : Nat} {d : D} (h : (Lay.cutD xs none (some (k : Int)))[i]? = some d) : xs[i]? = some d := by
  unfold Lay.cutD at h
  rw [List.getElem?_take] at h
  split at h
  · rwa [HT.sIx_none, List.drop_zero] at h
  · cases h
def sp_so : SD := fun ds M _ Q => ∃ (m : Int) (ps : List (Int × Int)), ds = [netD m ps, .lst ((Ts m ps 0).map tupI)] ∧ 2 ≤ m ∧ m ≤ 7 ∧ ps.length ≤ 13 ∧ Up m ps ∧ Q (.bl true) M
theorem w_law_are_trips_so (Γ : Gam) (gm : GMono Γ) (hc : Γ "trip_count" = sp_trip_count) (ha : Γ "trip_at" = sp_trip_at) (he : Γ "trip_error" = sp_due) (ds : List D) (M : Mem) (X : XP) (Q : Kd) (hl : ds.length = sig_law_are_trips_so.ps.length) (h : sp_so ds M X Q) : wss Γ ir_law_are_trips_so (bodyPo M X Q) (startD cc_law_are_trips_so.N ds) M := by
  obtain ⟨m, ps, rfl, m2, m7, hz, u, q⟩ := h
  unfold ir_law_are_trips_so cc_law_are_trips_so
  have hsz : sizeLine = 16777216 := sizeLine_eq
  have esh : shr (netD m ps) = netD m ps := rfl
  have est : ∀ t, shr (tupI t) = tupI t := fun t => rfl
  have hlen := Ts_len (m := m) (ps := ps) (a := 0)
  have small : (Ts m ps 0).length ≤ 8192 := by
    have := w_2 u 0 hz
    have : w m ps 0 ≤ 8192 := this
    omega
  have mem : ∀ t, t ∈ Ts m ps 0 ↔ walk ps 0 t = some (m - 1) := fun t => Ts_walk u (by decide) (by omega)
  simp only [startD, wpTg.eq_1, tg_tup, tg_fl, tg_cons, tg_nil, shr_non, shr_bl, shr_int, shr_str, shr_ty, shr_tup, shr_lst, shr_fz, shr_dct, shr_loc, shr_fr, List.map_cons, List.map_nil, List.length_cons, List.length_nil, List.cons_append, List.nil_append, List.replicate_succ, List.replicate_zero, List.set_cons_zero, List.set_cons_succ, Nat.zero_add, Nat.reduceAdd, Nat.reduceSub]
  refine ite_cut gm (b := false) ?_ ?_
  · simp only [wss, ws, wp.eq_1, wp.eq_2, wp.eq_3, wp.eq_4, wp.eq_5, wp.eq_6, wp.eq_7, wp.eq_8, wp.eq_9, wp.eq_10, wp.eq_11, wp.eq_12, wp.eq_13, wp.eq_14, wp.eq_15, wp.eq_16, wp.eq_17, wp.eq_18, wp.eq_19, wp.eq_20, wp.eq_22, wp.eq_23, wp.eq_24, wp.eq_25, wps, wpO, wpK, wpP, wpC, wpI, wpTg.eq_1, tg_tup, tg_fl, tg_cons, tg_nil, bodyPo, startD, shr_non, shr_bl, shr_int, shr_str, shr_ty, shr_tup, shr_lst, shr_fz, shr_dct, shr_loc, shr_fr, truth_bl, true_and, add_ii, sub_ii, mul_ii, fdiv_ii, mod_ii, pow_ii, lt_ii, le_ii, gt_ii, ge_ii, len_t, abs_i, int_i, int_b, Es.len, List.map_cons, List.map_nil, List.length_cons, List.length_nil, List.cons_append, List.nil_append, List.replicate_succ, List.replicate_zero, List.getElem?_cons_zero, List.getElem?_cons_succ, List.set_cons_zero, List.set_cons_succ, Option.some.injEq, exists_eq_left', Nat.zero_add, Nat.reduceAdd, Nat.reduceSub, eq_iff, ne_iff, ess_iff, nss_iff, max_iff, min_iff, isA_int, isA_bool, isA_tuple, isA_list, isA_str, okD_shr, ix0_2, ix1_2, ix0_3, ix1_3, ix2_3, ix0_1, decide_eq_true_eq, Bool.not_eq_true', Bool.not_eq_false', Bool.not_not, Bool.not_true, Bool.not_false, decide_eq_false_iff_not, List.cons.injEq, and_true, exists_and_left, exists_eq_left, exists_eq_right, D.int.injEq, if_true, if_false, Bool.false_eq_true, reduceCtorEq, ite_true, ite_false, D.tup.injEq, D.bl.injEq, D.str.injEq, Int.cast_ofNat_Int, Int.reduceEq, not_true_eq_false, not_false_eq_true, wipeD, List.foldr_cons, List.foldr_nil, add_tt, addll_iff, slt_iff, sll_iff, lstt_iff, lstl_iff, tupt_iff, tupl_iff, len_l, sizeLine_eq, Nat.reduceLeDiff, esh, hc]
    refine ⟨m, ps, rfl, m2, by omega, by omega, u, ?_⟩
    simp only [wss, ws, wp.eq_1, wp.eq_2, wp.eq_3, wp.eq_4, wp.eq_5, wp.eq_6, wp.eq_7, wp.eq_8, wp.eq_9, wp.eq_10, wp.eq_11, wp.eq_12, wp.eq_13, wp.eq_14, wp.eq_15, wp.eq_16, wp.eq_17, wp.eq_18, wp.eq_19, wp.eq_20, wp.eq_22, wp.eq_23, wp.eq_24, wp.eq_25, wps, wpO, wpK, wpP, wpC, wpI, wpTg.eq_1, tg_tup, tg_fl, tg_cons, tg_nil, bodyPo, startD, shr_non, shr_bl, shr_int, shr_str, shr_ty, shr_tup, shr_lst, shr_fz, shr_dct, shr_loc, shr_fr, truth_bl, true_and, add_ii, sub_ii, mul_ii, fdiv_ii, mod_ii, pow_ii, lt_ii, le_ii, gt_ii, ge_ii, len_t, abs_i, int_i, int_b, Es.len, List.map_cons, List.map_nil, List.length_cons, List.length_nil, List.cons_append, List.nil_append, List.replicate_succ, List.replicate_zero, List.getElem?_cons_zero, List.getElem?_cons_succ, List.set_cons_zero, List.set_cons_succ, Option.some.injEq, exists_eq_left', Nat.zero_add, Nat.reduceAdd, Nat.reduceSub, eq_iff, ne_iff, ess_iff, nss_iff, max_iff, min_iff, isA_int, isA_bool, isA_tuple, isA_list, isA_str, okD_shr, ix0_2, ix1_2, ix0_3, ix1_3, ix2_3, ix0_1, decide_eq_true_eq, Bool.not_eq_true', Bool.not_eq_false', Bool.not_not, Bool.not_true, Bool.not_false, decide_eq_false_iff_not, List.cons.injEq, and_true, exists_and_left, exists_eq_left, exists_eq_right, D.int.injEq, if_true, if_false, Bool.false_eq_true, reduceCtorEq, ite_true, ite_false, D.tup.injEq, D.bl.injEq, D.str.injEq, Int.cast_ofNat_Int, Int.reduceEq, not_true_eq_false, not_false_eq_true, wipeD, List.foldr_cons, List.foldr_nil, add_tt, addll_iff, slt_iff, sll_iff, lstt_iff, lstl_iff, tupt_iff, tupl_iff, len_l, sizeLine_eq, Nat.reduceLeDiff]
    rw [List.length_map, hlen]
    skip
  rw [if_neg Bool.false_ne_true]
  show wss Γ (.cons _ _) _ _ _
  refine for_cut gm (M1 := M) (enumFrom 0 (Lay.cutD ((Ts m ps 0).map tupI) none (some ((15 : Nat) : Int)))) [] ?_ (fun i σ M' => M' = M ∧ ∃ c2 c3 c4 c5 : Option D, σ = [some (netD m ps), some (.lst ((Ts m ps 0).map tupI)), c2, c3, c4, c5, none]) ⟨rfl, _, _, _, _, rfl⟩ (fun _ _ _ _ g hg => nomatch hg) ?_ ?_
  · simp only [wss, ws, wp.eq_1, wp.eq_2, wp.eq_3, wp.eq_4, wp.eq_5, wp.eq_6, wp.eq_7, wp.eq_8, wp.eq_9, wp.eq_10, wp.eq_11, wp.eq_12, wp.eq_13, wp.eq_14, wp.eq_15, wp.eq_16, wp.eq_17, wp.eq_18, wp.eq_19, wp.eq_20, wp.eq_22, wp.eq_23, wp.eq_24, wp.eq_25, wps, wpO, wpK, wpP, wpC, wpI, wpTg.eq_1, tg_tup, tg_fl, tg_cons, tg_nil, bodyPo, startD, shr_non, shr_bl, shr_int, shr_str, shr_ty, shr_tup, shr_lst, shr_fz, shr_dct, shr_loc, shr_fr, truth_bl, true_and, add_ii, sub_ii, mul_ii, fdiv_ii, mod_ii, pow_ii, lt_ii, le_ii, gt_ii, ge_ii, len_t, abs_i, int_i, int_b, Es.len, List.map_cons, List.map_nil, List.length_cons, List.length_nil, List.cons_append, List.nil_append, List.replicate_succ, List.replicate_zero, List.getElem?_cons_zero, List.getElem?_cons_succ, List.set_cons_zero, List.set_cons_succ, Option.some.injEq, exists_eq_left', Nat.zero_add, Nat.reduceAdd, Nat.reduceSub, eq_iff, ne_iff, ess_iff, nss_iff, max_iff, min_iff, isA_int, isA_bool, isA_tuple, isA_list, isA_str, okD_shr, ix0_2, ix1_2, ix0_3, ix1_3, ix2_3, ix0_1, decide_eq_true_eq, Bool.not_eq_true', Bool.not_eq_false', Bool.not_not, Bool.not_true, Bool.not_false, decide_eq_false_iff_not, List.cons.injEq, and_true, exists_and_left, exists_eq_left, exists_eq_right, D.int.injEq, if_true, if_false, Bool.false_eq_true, reduceCtorEq, ite_true, ite_false, D.tup.injEq, D.bl.injEq, D.str.injEq, Int.cast_ofNat_Int, Int.reduceEq, not_true_eq_false, not_false_eq_true, wipeD, List.foldr_cons, List.foldr_nil, add_tt, addll_iff, slt_iff, sll_iff, lstt_iff, lstl_iff, tupt_iff, tupl_iff, len_l, sizeLine_eq, Nat.reduceLeDiff]
    exact it_l (by simp)
  · rintro σ M' ⟨rfl, c2, c3, c4, c5, rfl⟩
    simp only [wss, ws, wp.eq_1, wp.eq_2, wp.eq_3, wp.eq_4, wp.eq_5, wp.eq_6, wp.eq_7, wp.eq_8, wp.eq_9, wp.eq_10, wp.eq_11, wp.eq_12, wp.eq_13, wp.eq_14, wp.eq_15, wp.eq_16, wp.eq_17, wp.eq_18, wp.eq_19, wp.eq_20, wp.eq_22, wp.eq_23, wp.eq_24, wp.eq_25, wps, wpO, wpK, wpP, wpC, wpI, wpTg.eq_1, tg_tup, tg_fl, tg_cons, tg_nil, bodyPo, startD, shr_non, shr_bl, shr_int, shr_str, shr_ty, shr_tup, shr_lst, shr_fz, shr_dct, shr_loc, shr_fr, truth_bl, true_and, add_ii, sub_ii, mul_ii, fdiv_ii, mod_ii, pow_ii, lt_ii, le_ii, gt_ii, ge_ii, len_t, abs_i, int_i, int_b, Es.len, List.map_cons, List.map_nil, List.length_cons, List.length_nil, List.cons_append, List.nil_append, List.replicate_succ, List.replicate_zero, List.getElem?_cons_zero, List.getElem?_cons_succ, List.set_cons_zero, List.set_cons_succ, Option.some.injEq, exists_eq_left', Nat.zero_add, Nat.reduceAdd, Nat.reduceSub, eq_iff, ne_iff, ess_iff, nss_iff, max_iff, min_iff, isA_int, isA_bool, isA_tuple, isA_list, isA_str, okD_shr, ix0_2, ix1_2, ix0_3, ix1_3, ix2_3, ix0_1, decide_eq_true_eq, Bool.not_eq_true', Bool.not_eq_false', Bool.not_not, Bool.not_true, Bool.not_false, decide_eq_false_iff_not, List.cons.injEq, and_true, exists_and_left, exists_eq_left, exists_eq_right, D.int.injEq, if_true, if_false, Bool.false_eq_true, reduceCtorEq, ite_true, ite_false, D.tup.injEq, D.bl.injEq, D.str.injEq, Int.cast_ofNat_Int, Int.reduceEq, not_true_eq_false, not_false_eq_true, wipeD, List.foldr_cons, List.foldr_nil, add_tt, addll_iff, slt_iff, sll_iff, lstt_iff, lstl_iff, tupt_iff, tupl_iff, len_l, sizeLine_eq, Nat.reduceLeDiff]
    exact ret_same rfl q
  rintro i x σ M' hx ⟨rfl, c2, c3, c4, c5, rfl⟩
  obtain ⟨d, hd, rfl⟩ := enum_at hx
  have hd := cut_at hd
  rw [List.getElem?_map] at hd
  obtain ⟨t, ht, rfl⟩ := Option.map_eq_some_iff.mp hd
  have hw := (mem t).mp (List.mem_of_getElem? ht)
  have h1 := walk_up u hw (by decide) (by omega)
  have hin := walk_in hw
  have t0 : t ≠ [] := fun e => by
    subst e
    have e : (0 : Int) = m - 1 := Option.some.inj hw
    omega
  obtain ⟨f1, f2, f3⟩ := walk_feet u hw
  simp only [startD, wpTg.eq_1, tg_tup, tg_fl, tg_cons, tg_nil, shr_non, shr_bl, shr_int, shr_str, shr_ty, shr_tup, shr_lst, shr_fz, shr_dct, shr_loc, shr_fr, List.map_cons, List.map_nil, List.length_cons, List.length_nil, List.cons_append, List.nil_append, List.replicate_succ, List.replicate_zero, List.set_cons_zero, List.set_cons_succ, Nat.zero_add, Nat.reduceAdd, Nat.reduceSub]
  refine asg_cut gm (R := fun d M1 => d = tupI t ∧ M1 = M') ?_ ?_
  · simp only [wss, ws, wp.eq_1, wp.eq_2, wp.eq_3, wp.eq_4, wp.eq_5, wp.eq_6, wp.eq_7, wp.eq_8, wp.eq_9, wp.eq_10, wp.eq_11, wp.eq_12, wp.eq_13, wp.eq_14, wp.eq_15, wp.eq_16, wp.eq_17, wp.eq_18, wp.eq_19, wp.eq_20, wp.eq_22, wp.eq_23, wp.eq_24, wp.eq_25, wps, wpO, wpK, wpP, wpC, wpI, wpTg.eq_1, tg_tup, tg_fl, tg_cons, tg_nil, bodyPo, startD, shr_non, shr_bl, shr_int, shr_str, shr_ty, shr_tup, shr_lst, shr_fz, shr_dct, shr_loc, shr_fr, truth_bl, true_and, add_ii, sub_ii, mul_ii, fdiv_ii, mod_ii, pow_ii, lt_ii, le_ii, gt_ii, ge_ii, len_t, abs_i, int_i, int_b, Es.len, List.map_cons, List.map_nil, List.length_cons, List.length_nil, List.cons_append, List.nil_append, List.replicate_succ, List.replicate_zero, List.getElem?_cons_zero, List.getElem?_cons_succ, List.set_cons_zero, List.set_cons_succ, Option.some.injEq, exists_eq_left', Nat.zero_add, Nat.reduceAdd, Nat.reduceSub, eq_iff, ne_iff, ess_iff, nss_iff, max_iff, min_iff, isA_int, isA_bool, isA_tuple, isA_list, isA_str, okD_shr, ix0_2, ix1_2, ix0_3, ix1_3, ix2_3, ix0_1, decide_eq_true_eq, Bool.not_eq_true', Bool.not_eq_false', Bool.not_not, Bool.not_true, Bool.not_false, decide_eq_false_iff_not, List.cons.injEq, and_true, exists_and_left, exists_eq_left, exists_eq_right, D.int.injEq, if_true, if_false, Bool.false_eq_true, reduceCtorEq, ite_true, ite_false, D.tup.injEq, D.bl.injEq, D.str.injEq, Int.cast_ofNat_Int, Int.reduceEq, not_true_eq_false, not_false_eq_true, wipeD, List.foldr_cons, List.foldr_nil, add_tt, addll_iff, slt_iff, sll_iff, lstt_iff, lstl_iff, tupt_iff, tupl_iff, len_l, sizeLine_eq, Nat.reduceLeDiff, esh, ha]
    refine ⟨m, ps, _, rfl, m2, by omega, by omega, u, rfl, fun n t' e n0 ht' => ?_, fun hb => ?_⟩
    · cases e
      rw [Int.toNat_natCast] at ht'
      rw [ht] at ht'
      cases ht'
      exact ⟨rfl, rfl⟩
    · have := hb _ rfl
      have h2 := (List.getElem?_eq_some_iff.mp ht).1
      omega
  rintro d M1 ⟨rfl, rfl⟩
  simp only [startD, wpTg.eq_1, tg_tup, tg_fl, tg_cons, tg_nil, shr_non, shr_bl, shr_int, shr_str, shr_ty, shr_tup, shr_lst, shr_fz, shr_dct, shr_loc, shr_fr, List.map_cons, List.map_nil, List.length_cons, List.length_nil, List.cons_append, List.nil_append, List.replicate_succ, List.replicate_zero, List.set_cons_zero, List.set_cons_succ, Nat.zero_add, Nat.reduceAdd, Nat.reduceSub]
  refine ite_cut gm (b := false) ?_ ?_
  · simp only [wss, ws, wp.eq_1, wp.eq_2, wp.eq_3, wp.eq_4, wp.eq_5, wp.eq_6, wp.eq_7, wp.eq_8, wp.eq_9, wp.eq_10, wp.eq_11, wp.eq_12, wp.eq_13, wp.eq_14, wp.eq_15, wp.eq_16, wp.eq_17, wp.eq_18, wp.eq_19, wp.eq_20, wp.eq_22, wp.eq_23, wp.eq_24, wp.eq_25, wps, wpO, wpK, wpP, wpC, wpI, wpTg.eq_1, tg_tup, tg_fl, tg_cons, tg_nil, bodyPo, startD, shr_non, shr_bl, shr_int, shr_str, shr_ty, shr_tup, shr_lst, shr_fz, shr_dct, shr_loc, shr_fr, truth_bl, true_and, add_ii, sub_ii, mul_ii, fdiv_ii, mod_ii, pow_ii, lt_ii, le_ii, gt_ii, ge_ii, len_t, abs_i, int_i, int_b, Es.len, List.map_cons, List.map_nil, List.length_cons, List.length_nil, List.cons_append, List.nil_append, List.replicate_succ, List.replicate_zero, List.getElem?_cons_zero, List.getElem?_cons_succ, List.set_cons_zero, List.set_cons_succ, Option.some.injEq, exists_eq_left', Nat.zero_add, Nat.reduceAdd, Nat.reduceSub, eq_iff, ne_iff, ess_iff, nss_iff, max_iff, min_iff, isA_int, isA_bool, isA_tuple, isA_list, isA_str, okD_shr, ix0_2, ix1_2, ix0_3, ix1_3, ix2_3, ix0_1, decide_eq_true_eq, Bool.not_eq_true', Bool.not_eq_false', Bool.not_not, Bool.not_true, Bool.not_false, decide_eq_false_iff_not, List.cons.injEq, and_true, exists_and_left, exists_eq_left, exists_eq_right, D.int.injEq, if_true, if_false, Bool.false_eq_true, reduceCtorEq, ite_true, ite_false, D.tup.injEq, D.bl.injEq, D.str.injEq, Int.cast_ofNat_Int, Int.reduceEq, not_true_eq_false, not_false_eq_true, wipeD, List.foldr_cons, List.foldr_nil, add_tt, addll_iff, slt_iff, sll_iff, lstt_iff, lstl_iff, tupt_iff, tupl_iff, len_l, sizeLine_eq, Nat.reduceLeDiff, esh, est]
    refine ne_tupI ?_
    simp only [wss, ws, wp.eq_1, wp.eq_2, wp.eq_3, wp.eq_4, wp.eq_5, wp.eq_6, wp.eq_7, wp.eq_8, wp.eq_9, wp.eq_10, wp.eq_11, wp.eq_12, wp.eq_13, wp.eq_14, wp.eq_15, wp.eq_16, wp.eq_17, wp.eq_18, wp.eq_19, wp.eq_20, wp.eq_22, wp.eq_23, wp.eq_24, wp.eq_25, wps, wpO, wpK, wpP, wpC, wpI, wpTg.eq_1, tg_tup, tg_fl, tg_cons, tg_nil, bodyPo, startD, shr_non, shr_bl, shr_int, shr_str, shr_ty, shr_tup, shr_lst, shr_fz, shr_dct, shr_loc, shr_fr, truth_bl, true_and, add_ii, sub_ii, mul_ii, fdiv_ii, mod_ii, pow_ii, lt_ii, le_ii, gt_ii, ge_ii, len_t, abs_i, int_i, int_b, Es.len, List.map_cons, List.map_nil, List.length_cons, List.length_nil, List.cons_append, List.nil_append, List.replicate_succ, List.replicate_zero, List.getElem?_cons_zero, List.getElem?_cons_succ, List.set_cons_zero, List.set_cons_succ, Option.some.injEq, exists_eq_left', Nat.zero_add, Nat.reduceAdd, Nat.reduceSub, eq_iff, ne_iff, ess_iff, nss_iff, max_iff, min_iff, isA_int, isA_bool, isA_tuple, isA_list, isA_str, okD_shr, ix0_2, ix1_2, ix0_3, ix1_3, ix2_3, ix0_1, decide_eq_true_eq, Bool.not_eq_true', Bool.not_eq_false', Bool.not_not, Bool.not_true, Bool.not_false, decide_eq_false_iff_not, List.cons.injEq, and_true, exists_and_left, exists_eq_left, exists_eq_right, D.int.injEq, if_true, if_false, Bool.false_eq_true, reduceCtorEq, ite_true, ite_false, D.tup.injEq, D.bl.injEq, D.str.injEq, Int.cast_ofNat_Int, Int.reduceEq, not_true_eq_false, not_false_eq_true, wipeD, List.foldr_cons, List.foldr_nil, add_tt, addll_iff, slt_iff, sll_iff, lstt_iff, lstl_iff, tupt_iff, tupl_iff, len_l, sizeLine_eq, Nat.reduceLeDiff, esh, est, he]
    refine ⟨m, ps, tupI t, rfl, by omega, tupI_shp.1, ?_⟩
    rw [trip_due m2 (by omega) u hw]
    simp only [wss, ws, wp.eq_1, wp.eq_2, wp.eq_3, wp.eq_4, wp.eq_5, wp.eq_6, wp.eq_7, wp.eq_8, wp.eq_9, wp.eq_10, wp.eq_11, wp.eq_12, wp.eq_13, wp.eq_14, wp.eq_15, wp.eq_16, wp.eq_17, wp.eq_18, wp.eq_19, wp.eq_20, wp.eq_22, wp.eq_23, wp.eq_24, wp.eq_25, wps, wpO, wpK, wpP, wpC, wpI, wpTg.eq_1, tg_tup, tg_fl, tg_cons, tg_nil, bodyPo, startD, shr_non, shr_bl, shr_int, shr_str, shr_ty, shr_tup, shr_lst, shr_fz, shr_dct, shr_loc, shr_fr, truth_bl, true_and, add_ii, sub_ii, mul_ii, fdiv_ii, mod_ii, pow_ii, lt_ii, le_ii, gt_ii, ge_ii, len_t, abs_i, int_i, int_b, Es.len, List.map_cons, List.map_nil, List.length_cons, List.length_nil, List.cons_append, List.nil_append, List.replicate_succ, List.replicate_zero, List.getElem?_cons_zero, List.getElem?_cons_succ, List.set_cons_zero, List.set_cons_succ, Option.some.injEq, exists_eq_left', Nat.zero_add, Nat.reduceAdd, Nat.reduceSub, eq_iff, ne_iff, ess_iff, nss_iff, max_iff, min_iff, isA_int, isA_bool, isA_tuple, isA_list, isA_str, okD_shr, ix0_2, ix1_2, ix0_3, ix1_3, ix2_3, ix0_1, decide_eq_true_eq, Bool.not_eq_true', Bool.not_eq_false', Bool.not_not, Bool.not_true, Bool.not_false, decide_eq_false_iff_not, List.cons.injEq, and_true, exists_and_left, exists_eq_left, exists_eq_right, D.int.injEq, if_true, if_false, Bool.false_eq_true, reduceCtorEq, ite_true, ite_false, D.tup.injEq, D.bl.injEq, D.str.injEq, Int.cast_ofNat_Int, Int.reduceEq, not_true_eq_false, not_false_eq_true, wipeD, List.foldr_cons, List.foldr_nil, add_tt, addll_iff, slt_iff, sll_iff, lstt_iff, lstl_iff, tupt_iff, tupl_iff, len_l, sizeLine_eq, Nat.reduceLeDiff, netD]
    refine ⟨rfl, ?_⟩
    show (if false = true then _ else _)
    rw [if_neg Bool.false_ne_true]
    unfold tupI
    simp only [wss, ws, wp.eq_1, wp.eq_2, wp.eq_3, wp.eq_4, wp.eq_5, wp.eq_6, wp.eq_7, wp.eq_8, wp.eq_9, wp.eq_10, wp.eq_11, wp.eq_12, wp.eq_13, wp.eq_14, wp.eq_15, wp.eq_16, wp.eq_17, wp.eq_18, wp.eq_19, wp.eq_20, wp.eq_22, wp.eq_23, wp.eq_24, wp.eq_25, wps, wpO, wpK, wpP, wpC, wpI, wpTg.eq_1, tg_tup, tg_fl, tg_cons, tg_nil, bodyPo, startD, shr_non, shr_bl, shr_int, shr_str, shr_ty, shr_tup, shr_lst, shr_fz, shr_dct, shr_loc, shr_fr, truth_bl, true_and, add_ii, sub_ii, mul_ii, fdiv_ii, mod_ii, pow_ii, lt_ii, le_ii, gt_ii, ge_ii, len_t, abs_i, int_i, int_b, Es.len, List.map_cons, List.map_nil, List.length_cons, List.length_nil, List.cons_append, List.nil_append, List.replicate_succ, List.replicate_zero, List.getElem?_cons_zero, List.getElem?_cons_succ, List.set_cons_zero, List.set_cons_succ, Option.some.injEq, exists_eq_left', Nat.zero_add, Nat.reduceAdd, Nat.reduceSub, eq_iff, ne_iff, ess_iff, nss_iff, max_iff, min_iff, isA_int, isA_bool, isA_tuple, isA_list, isA_str, okD_shr, ix0_2, ix1_2, ix0_3, ix1_3, ix2_3, ix0_1, decide_eq_true_eq, Bool.not_eq_true', Bool.not_eq_false', Bool.not_not, Bool.not_true, Bool.not_false, decide_eq_false_iff_not, List.cons.injEq, and_true, exists_and_left, exists_eq_left, exists_eq_right, D.int.injEq, if_true, if_false, Bool.false_eq_true, reduceCtorEq, ite_true, ite_false, D.tup.injEq, D.bl.injEq, D.str.injEq, Int.cast_ofNat_Int, Int.reduceEq, not_true_eq_false, not_false_eq_true, wipeD, List.foldr_cons, List.foldr_nil, add_tt, addll_iff, slt_iff, sll_iff, lstt_iff, lstl_iff, tupt_iff, tupl_iff, len_l, sizeLine_eq, Nat.reduceLeDiff]
    rw [List.length_map]
    omega
  rw [if_neg Bool.false_ne_true]
  show wss Γ (.cons _ _) _ _ _
  refine asg_cut gm (R := fun d M2 => d = .fr (.lst ((t.map (ftI ps)).map .int)) ∧ M2 = M1) ?_ ?_
  · refine lc_all gm (xs := t.map .int) (gd := []) (fun x => match x with | .int r => .int (ftI ps r) | _ => .non) ?_ (fun g hg => nomatch hg) ?_ (by rw [List.length_map]; omega) ?_
    · simp only [wss, ws, wp.eq_1, wp.eq_2, wp.eq_3, wp.eq_4, wp.eq_5, wp.eq_6, wp.eq_7, wp.eq_8, wp.eq_9, wp.eq_10, wp.eq_11, wp.eq_12, wp.eq_13, wp.eq_14, wp.eq_15, wp.eq_16, wp.eq_17, wp.eq_18, wp.eq_19, wp.eq_20, wp.eq_22, wp.eq_23, wp.eq_24, wp.eq_25, wps, wpO, wpK, wpP, wpC, wpI, wpTg.eq_1, tg_tup, tg_fl, tg_cons, tg_nil, bodyPo, startD, shr_non, shr_bl, shr_int, shr_str, shr_ty, shr_tup, shr_lst, shr_fz, shr_dct, shr_loc, shr_fr, truth_bl, true_and, add_ii, sub_ii, mul_ii, fdiv_ii, mod_ii, pow_ii, lt_ii, le_ii, gt_ii, ge_ii, len_t, abs_i, int_i, int_b, Es.len, List.map_cons, List.map_nil, List.length_cons, List.length_nil, List.cons_append, List.nil_append, List.replicate_succ, List.replicate_zero, List.getElem?_cons_zero, List.getElem?_cons_succ, List.set_cons_zero, List.set_cons_succ, Option.some.injEq, exists_eq_left', Nat.zero_add, Nat.reduceAdd, Nat.reduceSub, eq_iff, ne_iff, ess_iff, nss_iff, max_iff, min_iff, isA_int, isA_bool, isA_tuple, isA_list, isA_str, okD_shr, ix0_2, ix1_2, ix0_3, ix1_3, ix2_3, ix0_1, decide_eq_true_eq, Bool.not_eq_true', Bool.not_eq_false', Bool.not_not, Bool.not_true, Bool.not_false, decide_eq_false_iff_not, List.cons.injEq, and_true, exists_and_left, exists_eq_left, exists_eq_right, D.int.injEq, if_true, if_false, Bool.false_eq_true, reduceCtorEq, ite_true, ite_false, D.tup.injEq, D.bl.injEq, D.str.injEq, Int.cast_ofNat_Int, Int.reduceEq, not_true_eq_false, not_false_eq_true, wipeD, List.foldr_cons, List.foldr_nil, add_tt, addll_iff, slt_iff, sll_iff, lstt_iff, lstl_iff, tupt_iff, tupl_iff, len_l, sizeLine_eq, Nat.reduceLeDiff]
      exact it_t (by simp)
    · intro j y hy
      rw [List.getElem?_map] at hy
      obtain ⟨r, hr, rfl⟩ := Option.map_eq_some_iff.mp hy
      have hri := hin r (List.mem_of_getElem? hr)
      obtain ⟨p, hp⟩ : ∃ p, ps[r.toNat]? = some p := ⟨_, List.getElem?_eq_getElem (by omega)⟩
      simp only [wss, ws, wp.eq_1, wp.eq_2, wp.eq_3, wp.eq_4, wp.eq_5, wp.eq_6, wp.eq_7, wp.eq_8, wp.eq_9, wp.eq_10, wp.eq_11, wp.eq_12, wp.eq_13, wp.eq_14, wp.eq_15, wp.eq_16, wp.eq_17, wp.eq_18, wp.eq_19, wp.eq_20, wp.eq_22, wp.eq_23, wp.eq_24, wp.eq_25, wps, wpO, wpK, wpP, wpC, wpI, wpTg.eq_1, tg_tup, tg_fl, tg_cons, tg_nil, bodyPo, startD, shr_non, shr_bl, shr_int, shr_str, shr_ty, shr_tup, shr_lst, shr_fz, shr_dct, shr_loc, shr_fr, truth_bl, true_and, add_ii, sub_ii, mul_ii, fdiv_ii, mod_ii, pow_ii, lt_ii, le_ii, gt_ii, ge_ii, len_t, abs_i, int_i, int_b, Es.len, List.map_cons, List.map_nil, List.length_cons, List.length_nil, List.cons_append, List.nil_append, List.replicate_succ, List.replicate_zero, List.getElem?_cons_zero, List.getElem?_cons_succ, List.set_cons_zero, List.set_cons_succ, Option.some.injEq, exists_eq_left', Nat.zero_add, Nat.reduceAdd, Nat.reduceSub, eq_iff, ne_iff, ess_iff, nss_iff, max_iff, min_iff, isA_int, isA_bool, isA_tuple, isA_list, isA_str, okD_shr, ix0_2, ix1_2, ix0_3, ix1_3, ix2_3, ix0_1, decide_eq_true_eq, Bool.not_eq_true', Bool.not_eq_false', Bool.not_not, Bool.not_true, Bool.not_false, decide_eq_false_iff_not, List.cons.injEq, and_true, exists_and_left, exists_eq_left, exists_eq_right, D.int.injEq, if_true, if_false, Bool.false_eq_true, reduceCtorEq, ite_true, ite_false, D.tup.injEq, D.bl.injEq, D.str.injEq, Int.cast_ofNat_Int, Int.reduceEq, not_true_eq_false, not_false_eq_true, wipeD, List.foldr_cons, List.foldr_nil, add_tt, addll_iff, slt_iff, sll_iff, lstt_iff, lstl_iff, tupt_iff, tupl_iff, len_l, sizeLine_eq, Nat.reduceLeDiff, netD, ix_ps hri.1 hp (by omega)]
      unfold ftI
      rw [List.getD_eq_getElem?_getD, hp]; rfl
    · rw [List.map_map, List.map_map]
      exact ⟨rfl, rfl⟩
  rintro d M2 ⟨rfl, rfl⟩
  simp only [startD, wpTg.eq_1, tg_tup, tg_fl, tg_cons, tg_nil, shr_non, shr_bl, shr_int, shr_str, shr_ty, shr_tup, shr_lst, shr_fz, shr_dct, shr_loc, shr_fr, List.map_cons, List.map_nil, List.length_cons, List.length_nil, List.cons_append, List.nil_append, List.replicate_succ, List.replicate_zero, List.set_cons_zero, List.set_cons_succ, Nat.zero_add, Nat.reduceAdd, Nat.reduceSub]
  refine ite_cut gm (b := false) ?_ ?_
  · simp only [wss, ws, wp.eq_1, wp.eq_2, wp.eq_3, wp.eq_4, wp.eq_5, wp.eq_6, wp.eq_7, wp.eq_8, wp.eq_9, wp.eq_10, wp.eq_11, wp.eq_12, wp.eq_13, wp.eq_14, wp.eq_15, wp.eq_16, wp.eq_17, wp.eq_18, wp.eq_19, wp.eq_20, wp.eq_22, wp.eq_23, wp.eq_24, wp.eq_25, wps, wpO, wpK, wpP, wpC, wpI, wpTg.eq_1, tg_tup, tg_fl, tg_cons, tg_nil, bodyPo, startD, shr_non, shr_bl, shr_int, shr_str, shr_ty, shr_tup, shr_lst, shr_fz, shr_dct, shr_loc, shr_fr, truth_bl, true_and, add_ii, sub_ii, mul_ii, fdiv_ii, mod_ii, pow_ii, lt_ii, le_ii, gt_ii, ge_ii, len_t, abs_i, int_i, int_b, Es.len, List.map_cons, List.map_nil, List.length_cons, List.length_nil, List.cons_append, List.nil_append, List.replicate_succ, List.replicate_zero, List.getElem?_cons_zero, List.getElem?_cons_succ, List.set_cons_zero, List.set_cons_succ, Option.some.injEq, exists_eq_left', Nat.zero_add, Nat.reduceAdd, Nat.reduceSub, eq_iff, ne_iff, ess_iff, nss_iff, max_iff, min_iff, isA_int, isA_bool, isA_tuple, isA_list, isA_str, okD_shr, ix0_2, ix1_2, ix0_3, ix1_3, ix2_3, ix0_1, decide_eq_true_eq, Bool.not_eq_true', Bool.not_eq_false', Bool.not_not, Bool.not_true, Bool.not_false, decide_eq_false_iff_not, List.cons.injEq, and_true, exists_and_left, exists_eq_left, exists_eq_right, D.int.injEq, if_true, if_false, Bool.false_eq_true, reduceCtorEq, ite_true, ite_false, D.tup.injEq, D.bl.injEq, D.str.injEq, Int.cast_ofNat_Int, Int.reduceEq, not_true_eq_false, not_false_eq_true, wipeD, List.foldr_cons, List.foldr_nil, add_tt, addll_iff, slt_iff, sll_iff, lstt_iff, lstl_iff, tupt_iff, tupl_iff, len_l, sizeLine_eq, Nat.reduceLeDiff]
    refine ⟨t.map (ftI ps), rfl, by rw [List.length_map]; omega, fun is' h3 h4 => ?_⟩
    have e := rise_eq h3 f2 h4
    subst e
    refine ne_lstI ?_
    have e0 : atI ((t.map (ftI ps)).map D.int) 0 = some (.int 0) := by
      have := atI_nat (xs := (t.map (ftI ps)).map D.int) (k := 0) (x := .int 0) (by rw [List.getElem?_map, f3 t0]; rfl) (by rw [List.length_map, List.length_map]; omega)
      exact this
    simp only [wss, ws, wp.eq_1, wp.eq_2, wp.eq_3, wp.eq_4, wp.eq_5, wp.eq_6, wp.eq_7, wp.eq_8, wp.eq_9, wp.eq_10, wp.eq_11, wp.eq_12, wp.eq_13, wp.eq_14, wp.eq_15, wp.eq_16, wp.eq_17, wp.eq_18, wp.eq_19, wp.eq_20, wp.eq_22, wp.eq_23, wp.eq_24, wp.eq_25, wps, wpO, wpK, wpP, wpC, wpI, wpTg.eq_1, tg_tup, tg_fl, tg_cons, tg_nil, bodyPo, startD, shr_non, shr_bl, shr_int, shr_str, shr_ty, shr_tup, shr_lst, shr_fz, shr_dct, shr_loc, shr_fr, truth_bl, true_and, add_ii, sub_ii, mul_ii, fdiv_ii, mod_ii, pow_ii, lt_ii, le_ii, gt_ii, ge_ii, len_t, abs_i, int_i, int_b, Es.len, List.map_cons, List.map_nil, List.length_cons, List.length_nil, List.cons_append, List.nil_append, List.replicate_succ, List.replicate_zero, List.getElem?_cons_zero, List.getElem?_cons_succ, List.set_cons_zero, List.set_cons_succ, Option.some.injEq, exists_eq_left', Nat.zero_add, Nat.reduceAdd, Nat.reduceSub, eq_iff, ne_iff, ess_iff, nss_iff, max_iff, min_iff, isA_int, isA_bool, isA_tuple, isA_list, isA_str, okD_shr, ix0_2, ix1_2, ix0_3, ix1_3, ix2_3, ix0_1, decide_eq_true_eq, Bool.not_eq_true', Bool.not_eq_false', Bool.not_not, Bool.not_true, Bool.not_false, decide_eq_false_iff_not, List.cons.injEq, and_true, exists_and_left, exists_eq_left, exists_eq_right, D.int.injEq, if_true, if_false, Bool.false_eq_true, reduceCtorEq, ite_true, ite_false, D.tup.injEq, D.bl.injEq, D.str.injEq, Int.cast_ofNat_Int, Int.reduceEq, not_true_eq_false, not_false_eq_true, wipeD, List.foldr_cons, List.foldr_nil, add_tt, addll_iff, slt_iff, sll_iff, lstt_iff, lstl_iff, tupt_iff, tupl_iff, len_l, sizeLine_eq, Nat.reduceLeDiff, ix_lff e0]
    have hdl := List.dropLast_concat_getLast t0
    rw [← hdl] at hw
    obtain ⟨r1, p, hp, e1⟩ := walk_last hw
    have el : atI (t.map D.int) (-1) = some (.int (t.getLast t0)) := by
      refine (atI_last (xs := t.map D.int) (by simpa using t0)).trans ?_
      rw [List.getElem?_map, List.length_map]
      rw [← List.getLast?_eq_getElem?, List.getLast?_eq_some_getLast t0]
      rfl
    unfold tupI netD
    simp only [wss, ws, wp.eq_1, wp.eq_2, wp.eq_3, wp.eq_4, wp.eq_5, wp.eq_6, wp.eq_7, wp.eq_8, wp.eq_9, wp.eq_10, wp.eq_11, wp.eq_12, wp.eq_13, wp.eq_14, wp.eq_15, wp.eq_16, wp.eq_17, wp.eq_18, wp.eq_19, wp.eq_20, wp.eq_22, wp.eq_23, wp.eq_24, wp.eq_25, wps, wpO, wpK, wpP, wpC, wpI, wpTg.eq_1, tg_tup, tg_fl, tg_cons, tg_nil, bodyPo, startD, shr_non, shr_bl, shr_int, shr_str, shr_ty, shr_tup, shr_lst, shr_fz, shr_dct, shr_loc, shr_fr, truth_bl, true_and, add_ii, sub_ii, mul_ii, fdiv_ii, mod_ii, pow_ii, lt_ii, le_ii, gt_ii, ge_ii, len_t, abs_i, int_i, int_b, Es.len, List.map_cons, List.map_nil, List.length_cons, List.length_nil, List.cons_append, List.nil_append, List.replicate_succ, List.replicate_zero, List.getElem?_cons_zero, List.getElem?_cons_succ, List.set_cons_zero, List.set_cons_succ, Option.some.injEq, exists_eq_left', Nat.zero_add, Nat.reduceAdd, Nat.reduceSub, eq_iff, ne_iff, ess_iff, nss_iff, max_iff, min_iff, isA_int, isA_bool, isA_tuple, isA_list, isA_str, okD_shr, ix0_2, ix1_2, ix0_3, ix1_3, ix2_3, ix0_1, decide_eq_true_eq, Bool.not_eq_true', Bool.not_eq_false', Bool.not_not, Bool.not_true, Bool.not_false, decide_eq_false_iff_not, List.cons.injEq, and_true, exists_and_left, exists_eq_left, exists_eq_right, D.int.injEq, if_true, if_false, Bool.false_eq_true, reduceCtorEq, ite_true, ite_false, D.tup.injEq, D.bl.injEq, D.str.injEq, Int.cast_ofNat_Int, Int.reduceEq, not_true_eq_false, not_false_eq_true, wipeD, List.foldr_cons, List.foldr_nil, add_tt, addll_iff, slt_iff, sll_iff, lstt_iff, lstl_iff, tupt_iff, tupl_iff, len_l, sizeLine_eq, Nat.reduceLeDiff, ix_iff el, ix_ps r1 hp (by omega)]
    exact e1
  rw [if_neg Bool.false_ne_true]
  exact ⟨rfl, _, _, _, _, rfl⟩
end LK

set_option Elab.async false
set_option maxRecDepth 100000
set_option linter.all false
/-! is_integer, where the program's part has it. -/
namespace LK
open PySem L2 Lay RZ PyProof.Rows
theorem w_is_integer (Γ : Gam) (ds : List D) (M : Mem) (X : XP) (Q : Kd) (hl : ds.length = sig_is_integer.ps.length) (h : sp_is_integer ds M X Q) : wss Γ ir_is_integer (bodyPo M X Q) (startD cc_is_integer.N ds) M := by
  obtain ⟨v, rfl, ht, q⟩ := h
  unfold ir_is_integer cc_is_integer
  simp only [wss, ws, wp, wps, wpO, wpK, wpP, wpC, wpI, wpTg, wpTgs, bodyPo, startD, shr_non, shr_bl, shr_int, shr_str, shr_ty, shr_tup, shr_lst, shr_fz, shr_dct, shr_loc, shr_fr, truth_bl, true_and, add_ii, sub_ii, mul_ii, fdiv_ii, mod_ii, pow_ii, lt_ii, le_ii, gt_ii, ge_ii, len_t, abs_i, int_i, int_b, Es.len, List.map_cons, List.map_nil, List.length_cons, List.length_nil, List.cons_append, List.nil_append, List.replicate_succ, List.replicate_zero, List.getElem?_cons_zero, List.getElem?_cons_succ, List.set_cons_zero, List.set_cons_succ, Option.some.injEq, exists_eq_left', Nat.zero_add, Nat.reduceAdd, Nat.reduceSub]
  simp only [okD_shr ht, isA_iff ht (show "int" ∈ _ by decide), isA_iff ht (show "bool" ∈ _ by decide), truth_bl, shr_bl]
  have e := isInt_A v
  split
  · rename_i h1
    rw [h1, Bool.true_and] at e
    rw [e]
    exact ret_same rfl q
  · rename_i h1
    rw [Bool.not_eq_true] at h1
    rw [h1, Bool.false_and] at e
    rw [h1, e]
    exact ret_same rfl q
end LK

set_option Elab.async false
set_option maxRecDepth 100000
set_option linter.all false
namespace LK
open PySem L2 Lay RZ PyProof.Rows
section
variable {Γ : Gam} {s : Dk} {R : Mem} {X : XP} {Q : Kd} {b : Bool} {M : Mem} {m : Int} {ps : List (Int × Int)}
theorem nts (hn : Γ "_law_net" = sp_net) (ok : s.Ok) {more : Int} (m2 : 2 ≤ m) (m24 : m ≤ 24) (o0 : 0 ≤ more) (o60 : more ≤ 60) (q : ∀ (ps : List (Int × Int)) (s' : Dk), s'.Ok → ps ≠ [] → (ps.length : Int) ≤ m - 1 + more → Up m ps → Q (netD m ps) (s'.mem ++ R)) : Γ "_law_net" [.loc 0, .int m, .int more] (s.mem ++ R) X Q := by
  rw [hn]
  refine ⟨s, m, more, R, rfl, rfl, ok, m2, m24, o0, o60, fun rs s' ok' h1 h2 h3 => ?_⟩
  obtain ⟨ps, rfl, u⟩ := rds_pairs h3
  rw [List.length_map] at h2
  exact q ps s' ok' (fun e => h1 (by rw [e]; rfl)) h2 u
theorem net_sm {m : Int} {ps : List (Int × Int)} (hz : ps.length ≤ 60) (u : Up m ps) (m2 : 2 ≤ m) (m24 : m ≤ 24) : Sm 6000 3 (netD m ps) := by
  have h1 : Sms (83 * 60) 1 (ps.map pr) := by
    refine (Sms.all (w := 82) (dp := 1) fun x hx => ?_).mono ?_ (Nat.le_refl _)
    · obtain ⟨p, hp, rfl⟩ := List.mem_map.mp hx
      have := u p hp
      exact (Sm.tup (Sms.cons (sm_i (by omega) (by omega)) (Sms.cons (sm_i (by omega) (by omega)) Sms.nil))).mono (by decide) (by decide)
    · rw [List.length_map]
      exact Nat.mul_le_mul (Nat.le_refl _) hz
  exact (Sm.tup (Sms.cons (sm_i (i := m) (by omega) (by omega) |>.mono (Nat.le_refl _) (Nat.zero_le 2)) (Sms.cons ((Sm.tup h1).mono (Nat.le_refl _) (Nat.le_refl 2)) Sms.nil))).mono (by decide) (Nat.le_refl 3)
end
def sp_law : SD := fun ds M _ Q => ∃ (ns : List Int), ds = [.fz (ns.map .int)] ∧ M = [] ∧ ns.length ≤ 63 ∧ Q (.bl true) []
theorem w_law (Γ : Gam) (gm : GMono Γ) (hk : Γ "_law_deck" = sp_deck) (hp : Γ "_law_pick" = sp_pick) (hn : Γ "_law_net" = sp_net) (htr : Γ "_law_trips" = sp_trips) (hto : Γ "_law_are_together" = sp_together) (hov : Γ "_law_goes_over" = sp_over) (hso : Γ "_law_are_trips_so" = sp_so)
    (ds : List D) (M : Mem) (X : XP) (Q : Kd) (hl : ds.length = sig_law.ps.length) (h : sp_law ds M X Q) : wss Γ ir_law (bodyPo M X Q) (startD cc_law.N ds) M := by
  obtain ⟨ns, rfl, rfl, hns, q⟩ := h
  unfold ir_law cc_law
  have hsz : sizeLine = 16777216 := sizeLine_eq
  have nil : ∀ s : Dk, s.mem = s.mem ++ [] := fun s => (List.append_nil _).symm
  have esh : ∀ {m : Int} {ps : List (Int × Int)}, shr (netD m ps) = netD m ps := rfl
  have drop : ∀ (s' : Dk), Ret [] Q (.bl true) (s'.mem ++ []) := fun s' => by
    have := ret_drop (M := []) (ex := s'.mem) (d := .bl true) rfl q
    simpa using this
  generalize hF : D.fz (ns.map .int) = F
  refine asg_cut gm (R := fun d M1 => d = .loc 0 ∧ ∃ s : Dk, M1 = s.mem ++ [] ∧ s.Ok) ?_ ?_
  · subst hF
    simp only [wss, ws, wp, wps, wpO, wpK, wpP, wpC, wpI, wpTg, wpTgs, bodyPo, startD, shr_non, shr_bl, shr_int, shr_str, shr_ty, shr_tup, shr_lst, shr_fz, shr_dct, shr_loc, shr_fr, truth_bl, true_and, add_ii, sub_ii, mul_ii, fdiv_ii, mod_ii, pow_ii, lt_ii, le_ii, gt_ii, ge_ii, len_t, abs_i, int_i, int_b, Es.len, List.map_cons, List.map_nil, List.length_cons, List.length_nil, List.cons_append, List.nil_append, List.replicate_succ, List.replicate_zero, List.getElem?_cons_zero, List.getElem?_cons_succ, List.set_cons_zero, List.set_cons_succ, Option.some.injEq, exists_eq_left', Nat.zero_add, Nat.reduceAdd, Nat.reduceSub]
    rw [hk]
    exact ⟨ns, rfl, rfl, hns, fun s' ok' => ⟨rfl, s', nil s', ok'⟩⟩
  rintro d M1 ⟨rfl, s, rfl, ok⟩
  simp only [startD, wpTg.eq_1, tg_tup, tg_fl, tg_cons, tg_nil, shr_non, shr_bl, shr_int, shr_str, shr_ty, shr_tup, shr_lst, shr_fz, shr_dct, shr_loc, shr_fr, List.map_cons, List.map_nil, List.length_cons, List.length_nil, List.cons_append, List.nil_append, List.replicate_succ, List.replicate_zero, List.set_cons_zero, List.set_cons_succ, Nat.zero_add, Nat.reduceAdd, Nat.reduceSub]
  refine for_cut gm (M1 := s.mem ++ []) (rngD 0 5 1) [] ?_ (fun i σ M' => ∃ (s' : Dk) (c2 c3 c4 c5 : Option D), M' = s'.mem ++ [] ∧ s'.Ok ∧ σ = [some F, some (.loc 0), c2, c3, c4, c5]) ⟨s, _, _, _, _, rfl, ok, rfl⟩ (fun _ _ _ _ g hg => nomatch hg) ?_ ?_
  · simp only [wss, ws, wp.eq_1, wp.eq_2, wp.eq_3, wp.eq_4, wp.eq_5, wp.eq_6, wp.eq_7, wp.eq_8, wp.eq_9, wp.eq_10, wp.eq_11, wp.eq_12, wp.eq_13, wp.eq_14, wp.eq_15, wp.eq_16, wp.eq_17, wp.eq_18, wp.eq_19, wp.eq_20, wp.eq_22, wp.eq_23, wp.eq_24, wp.eq_25, wps, wpO, wpK, wpP, wpC, wpI, wpTg.eq_1, tg_tup, tg_fl, tg_cons, tg_nil, bodyPo, startD, shr_non, shr_bl, shr_int, shr_str, shr_ty, shr_tup, shr_lst, shr_fz, shr_dct, shr_loc, shr_fr, truth_bl, true_and, add_ii, sub_ii, mul_ii, fdiv_ii, mod_ii, pow_ii, lt_ii, le_ii, gt_ii, ge_ii, len_t, abs_i, int_i, int_b, Es.len, List.map_cons, List.map_nil, List.length_cons, List.length_nil, List.cons_append, List.nil_append, List.replicate_succ, List.replicate_zero, List.getElem?_cons_zero, List.getElem?_cons_succ, List.set_cons_zero, List.set_cons_succ, Option.some.injEq, exists_eq_left', Nat.zero_add, Nat.reduceAdd, Nat.reduceSub, eq_iff, ne_iff, ess_iff, nss_iff, max_iff, min_iff, isA_int, isA_bool, isA_tuple, isA_list, isA_str, okD_shr, ix0_2, ix1_2, ix0_3, ix1_3, ix2_3, ix0_1, decide_eq_true_eq, Bool.not_eq_true', Bool.not_eq_false', Bool.not_not, Bool.not_true, Bool.not_false, decide_eq_false_iff_not, List.cons.injEq, and_true, exists_and_left, exists_eq_left, exists_eq_right, D.int.injEq, if_true, if_false, Bool.false_eq_true, reduceCtorEq, ite_true, ite_false, D.tup.injEq, D.bl.injEq, D.str.injEq, Int.cast_ofNat_Int, Int.reduceEq, not_true_eq_false, not_false_eq_true, wipeD, List.foldr_cons, List.foldr_nil]
    exact ⟨5, rfl, by unfold small62; decide, by simp⟩
  · rintro σ M' ⟨s1, c2, c3, c4, c5, rfl, ok1, rfl⟩
    simp only [wss, ws, wp.eq_1, wp.eq_2, wp.eq_3, wp.eq_4, wp.eq_5, wp.eq_6, wp.eq_7, wp.eq_8, wp.eq_9, wp.eq_10, wp.eq_11, wp.eq_12, wp.eq_13, wp.eq_14, wp.eq_15, wp.eq_16, wp.eq_17, wp.eq_18, wp.eq_19, wp.eq_20, wp.eq_22, wp.eq_23, wp.eq_24, wp.eq_25, wps, wpO, wpK, wpP, wpC, wpI, wpTg.eq_1, tg_tup, tg_fl, tg_cons, tg_nil, bodyPo, startD, shr_non, shr_bl, shr_int, shr_str, shr_ty, shr_tup, shr_lst, shr_fz, shr_dct, shr_loc, shr_fr, truth_bl, true_and, add_ii, sub_ii, mul_ii, fdiv_ii, mod_ii, pow_ii, lt_ii, le_ii, gt_ii, ge_ii, len_t, abs_i, int_i, int_b, Es.len, List.map_cons, List.map_nil, List.length_cons, List.length_nil, List.cons_append, List.nil_append, List.replicate_succ, List.replicate_zero, List.getElem?_cons_zero, List.getElem?_cons_succ, List.set_cons_zero, List.set_cons_succ, Option.some.injEq, exists_eq_left', Nat.zero_add, Nat.reduceAdd, Nat.reduceSub, eq_iff, ne_iff, ess_iff, nss_iff, max_iff, min_iff, isA_int, isA_bool, isA_tuple, isA_list, isA_str, okD_shr, ix0_2, ix1_2, ix0_3, ix1_3, ix2_3, ix0_1, decide_eq_true_eq, Bool.not_eq_true', Bool.not_eq_false', Bool.not_not, Bool.not_true, Bool.not_false, decide_eq_false_iff_not, List.cons.injEq, and_true, exists_and_left, exists_eq_left, exists_eq_right, D.int.injEq, if_true, if_false, Bool.false_eq_true, reduceCtorEq, ite_true, ite_false, D.tup.injEq, D.bl.injEq, D.str.injEq, Int.cast_ofNat_Int, Int.reduceEq, not_true_eq_false, not_false_eq_true, wipeD, List.foldr_cons, List.foldr_nil, add_tt, addll_iff, slt_iff, sll_iff, lstt_iff, lstl_iff, tupt_iff, tupl_iff, len_l, sizeLine_eq, Nat.reduceLeDiff]
    exact drop s1
  · rintro turn x σ M' hx ⟨s1, c2, c3, c4, c5, rfl, ok1, rfl⟩
    obtain ⟨htl, hx⟩ := rng1 (P := fun i x => x = .int (0 + (i : Int) * 1)) (fun i _ => rfl) turn x hx
    subst hx
    simp only [startD, wpTg.eq_1, tg_tup, tg_fl, tg_cons, tg_nil, shr_non, shr_bl, shr_int, shr_str, shr_ty, shr_tup, shr_lst, shr_fz, shr_dct, shr_loc, shr_fr, List.map_cons, List.map_nil, List.length_cons, List.length_nil, List.cons_append, List.nil_append, List.replicate_succ, List.replicate_zero, List.set_cons_zero, List.set_cons_succ, Nat.zero_add, Nat.reduceAdd, Nat.reduceSub]
    refine asg_cut gm (R := fun d M1 => ∃ (s' : Dk) (m : Int) (ps : List (Int × Int)), d = netD m ps ∧ M1 = s'.mem ++ [] ∧ s'.Ok ∧ 2 ≤ m ∧ m ≤ 7 ∧ ps.length ≤ 13 ∧ ps ≠ [] ∧ Up m ps) ?_ ?_
    · simp only [wss, ws, wp.eq_1, wp.eq_2, wp.eq_3, wp.eq_4, wp.eq_5, wp.eq_6, wp.eq_7, wp.eq_8, wp.eq_9, wp.eq_10, wp.eq_11, wp.eq_12, wp.eq_13, wp.eq_14, wp.eq_15, wp.eq_16, wp.eq_17, wp.eq_18, wp.eq_19, wp.eq_20, wp.eq_22, wp.eq_23, wp.eq_24, wp.eq_25, wps, wpO, wpK, wpP, wpC, wpI, wpTg.eq_1, tg_tup, tg_fl, tg_cons, tg_nil, bodyPo, startD, shr_non, shr_bl, shr_int, shr_str, shr_ty, shr_tup, shr_lst, shr_fz, shr_dct, shr_loc, shr_fr, truth_bl, true_and, add_ii, sub_ii, mul_ii, fdiv_ii, mod_ii, pow_ii, lt_ii, le_ii, gt_ii, ge_ii, len_t, abs_i, int_i, int_b, Es.len, List.map_cons, List.map_nil, List.length_cons, List.length_nil, List.cons_append, List.nil_append, List.replicate_succ, List.replicate_zero, List.getElem?_cons_zero, List.getElem?_cons_succ, List.set_cons_zero, List.set_cons_succ, Option.some.injEq, exists_eq_left', Nat.zero_add, Nat.reduceAdd, Nat.reduceSub, eq_iff, ne_iff, ess_iff, nss_iff, max_iff, min_iff, isA_int, isA_bool, isA_tuple, isA_list, isA_str, okD_shr, ix0_2, ix1_2, ix0_3, ix1_3, ix2_3, ix0_1, decide_eq_true_eq, Bool.not_eq_true', Bool.not_eq_false', Bool.not_not, Bool.not_true, Bool.not_false, decide_eq_false_iff_not, List.cons.injEq, and_true, exists_and_left, exists_eq_left, exists_eq_right, D.int.injEq, if_true, if_false, Bool.false_eq_true, reduceCtorEq, ite_true, ite_false, D.tup.injEq, D.bl.injEq, D.str.injEq, Int.cast_ofNat_Int, Int.reduceEq, not_true_eq_false, not_false_eq_true, wipeD, List.foldr_cons, List.foldr_nil, add_tt, addll_iff, slt_iff, sll_iff, lstt_iff, lstl_iff, tupt_iff, tupl_iff, len_l, sizeLine_eq, Nat.reduceLeDiff]
      refine pk hp ok1 (by simp) (by simp) (by simp [okD]) fun y s2 ok2 hy => ?_
      have hy : ∃ m : Int, y = .int m ∧ 2 ≤ m ∧ m ≤ 7 := by
        simp only [List.mem_cons, List.not_mem_nil, or_false] at hy
        rcases hy with rfl | rfl | rfl | rfl | rfl | rfl <;> exact ⟨_, rfl, by decide, by decide⟩
      obtain ⟨m, rfl, m2, m7⟩ := hy
      refine pk hp ok2 (by simp) (by simp) (by simp [okD]) fun z s3 ok3 hz => ?_
      have hz : ∃ o : Int, z = .int o ∧ 0 ≤ o ∧ o ≤ 6 := by
        simp only [List.mem_cons, List.not_mem_nil, or_false] at hz
        rcases hz with rfl | rfl | rfl | rfl | rfl <;> exact ⟨_, rfl, by decide, by decide⟩
      obtain ⟨o, rfl, o0, o7⟩ := hz
      exact nts hn ok3 m2 (by omega) o0 (by omega) fun ps s4 ok4 h0 h1 h2 => ⟨s4, m, ps, rfl, rfl, ok4, m2, m7, by omega, h0, h2⟩
    rintro d M1 ⟨s2, m, ps, rfl, rfl, ok2, m2, m7, pl, p0, u⟩
    simp only [startD, wpTg.eq_1, tg_tup, tg_fl, tg_cons, tg_nil, shr_non, shr_bl, shr_int, shr_str, shr_ty, shr_tup, shr_lst, shr_fz, shr_dct, shr_loc, shr_fr, List.map_cons, List.map_nil, List.length_cons, List.length_nil, List.cons_append, List.nil_append, List.replicate_succ, List.replicate_zero, List.set_cons_zero, List.set_cons_succ, Nat.zero_add, Nat.reduceAdd, Nat.reduceSub]
    have rpn : ∀ {M : Mem} {Q : Kd}, Q (.str (rp (netD m ps))) M → opB .repr [netD m ps] M Q := fun k => (net_sm (by omega) u m2 (by omega)).repr (by decide) (by decide) k
    refine asg_cut gm (R := fun d M1 => d = .tup [.str (rp (netD m ps)), .lst ((Ts m ps 0).map tupI)] ∧ M1 = s2.mem ++ []) ?_ ?_
    · simp only [wss, ws, wp.eq_1, wp.eq_2, wp.eq_3, wp.eq_4, wp.eq_5, wp.eq_6, wp.eq_7, wp.eq_8, wp.eq_9, wp.eq_10, wp.eq_11, wp.eq_12, wp.eq_13, wp.eq_14, wp.eq_15, wp.eq_16, wp.eq_17, wp.eq_18, wp.eq_19, wp.eq_20, wp.eq_22, wp.eq_23, wp.eq_24, wp.eq_25, wps, wpO, wpK, wpP, wpC, wpI, wpTg.eq_1, tg_tup, tg_fl, tg_cons, tg_nil, bodyPo, startD, shr_non, shr_bl, shr_int, shr_str, shr_ty, shr_tup, shr_lst, shr_fz, shr_dct, shr_loc, shr_fr, truth_bl, true_and, add_ii, sub_ii, mul_ii, fdiv_ii, mod_ii, pow_ii, lt_ii, le_ii, gt_ii, ge_ii, len_t, abs_i, int_i, int_b, Es.len, List.map_cons, List.map_nil, List.length_cons, List.length_nil, List.cons_append, List.nil_append, List.replicate_succ, List.replicate_zero, List.getElem?_cons_zero, List.getElem?_cons_succ, List.set_cons_zero, List.set_cons_succ, Option.some.injEq, exists_eq_left', Nat.zero_add, Nat.reduceAdd, Nat.reduceSub, eq_iff, ne_iff, ess_iff, nss_iff, max_iff, min_iff, isA_int, isA_bool, isA_tuple, isA_list, isA_str, okD_shr, ix0_2, ix1_2, ix0_3, ix1_3, ix2_3, ix0_1, decide_eq_true_eq, Bool.not_eq_true', Bool.not_eq_false', Bool.not_not, Bool.not_true, Bool.not_false, decide_eq_false_iff_not, List.cons.injEq, and_true, exists_and_left, exists_eq_left, exists_eq_right, D.int.injEq, if_true, if_false, Bool.false_eq_true, reduceCtorEq, ite_true, ite_false, D.tup.injEq, D.bl.injEq, D.str.injEq, Int.cast_ofNat_Int, Int.reduceEq, not_true_eq_false, not_false_eq_true, wipeD, List.foldr_cons, List.foldr_nil, add_tt, addll_iff, slt_iff, sll_iff, lstt_iff, lstl_iff, tupt_iff, tupl_iff, len_l, sizeLine_eq, Nat.reduceLeDiff, esh]
      refine rpn ?_
      simp only [wss, ws, wp.eq_1, wp.eq_2, wp.eq_3, wp.eq_4, wp.eq_5, wp.eq_6, wp.eq_7, wp.eq_8, wp.eq_9, wp.eq_10, wp.eq_11, wp.eq_12, wp.eq_13, wp.eq_14, wp.eq_15, wp.eq_16, wp.eq_17, wp.eq_18, wp.eq_19, wp.eq_20, wp.eq_22, wp.eq_23, wp.eq_24, wp.eq_25, wps, wpO, wpK, wpP, wpC, wpI, wpTg.eq_1, tg_tup, tg_fl, tg_cons, tg_nil, bodyPo, startD, shr_non, shr_bl, shr_int, shr_str, shr_ty, shr_tup, shr_lst, shr_fz, shr_dct, shr_loc, shr_fr, truth_bl, true_and, add_ii, sub_ii, mul_ii, fdiv_ii, mod_ii, pow_ii, lt_ii, le_ii, gt_ii, ge_ii, len_t, abs_i, int_i, int_b, Es.len, List.map_cons, List.map_nil, List.length_cons, List.length_nil, List.cons_append, List.nil_append, List.replicate_succ, List.replicate_zero, List.getElem?_cons_zero, List.getElem?_cons_succ, List.set_cons_zero, List.set_cons_succ, Option.some.injEq, exists_eq_left', Nat.zero_add, Nat.reduceAdd, Nat.reduceSub, eq_iff, ne_iff, ess_iff, nss_iff, max_iff, min_iff, isA_int, isA_bool, isA_tuple, isA_list, isA_str, okD_shr, ix0_2, ix1_2, ix0_3, ix1_3, ix2_3, ix0_1, decide_eq_true_eq, Bool.not_eq_true', Bool.not_eq_false', Bool.not_not, Bool.not_true, Bool.not_false, decide_eq_false_iff_not, List.cons.injEq, and_true, exists_and_left, exists_eq_left, exists_eq_right, D.int.injEq, if_true, if_false, Bool.false_eq_true, reduceCtorEq, ite_true, ite_false, D.tup.injEq, D.bl.injEq, D.str.injEq, Int.cast_ofNat_Int, Int.reduceEq, not_true_eq_false, not_false_eq_true, wipeD, List.foldr_cons, List.foldr_nil, add_tt, addll_iff, slt_iff, sll_iff, lstt_iff, lstl_iff, tupt_iff, tupl_iff, len_l, sizeLine_eq, Nat.reduceLeDiff, htr, esh]
      exact ⟨m, ps, rfl, m2, m7, pl, u, by simp only [wss, ws, wp.eq_1, wp.eq_2, wp.eq_3, wp.eq_4, wp.eq_5, wp.eq_6, wp.eq_7, wp.eq_8, wp.eq_9, wp.eq_10, wp.eq_11, wp.eq_12, wp.eq_13, wp.eq_14, wp.eq_15, wp.eq_16, wp.eq_17, wp.eq_18, wp.eq_19, wp.eq_20, wp.eq_22, wp.eq_23, wp.eq_24, wp.eq_25, wps, wpO, wpK, wpP, wpC, wpI, wpTg.eq_1, tg_tup, tg_fl, tg_cons, tg_nil, bodyPo, startD, shr_non, shr_bl, shr_int, shr_str, shr_ty, shr_tup, shr_lst, shr_fz, shr_dct, shr_loc, shr_fr, truth_bl, true_and, add_ii, sub_ii, mul_ii, fdiv_ii, mod_ii, pow_ii, lt_ii, le_ii, gt_ii, ge_ii, len_t, abs_i, int_i, int_b, Es.len, List.map_cons, List.map_nil, List.length_cons, List.length_nil, List.cons_append, List.nil_append, List.replicate_succ, List.replicate_zero, List.getElem?_cons_zero, List.getElem?_cons_succ, List.set_cons_zero, List.set_cons_succ, Option.some.injEq, exists_eq_left', Nat.zero_add, Nat.reduceAdd, Nat.reduceSub, eq_iff, ne_iff, ess_iff, nss_iff, max_iff, min_iff, isA_int, isA_bool, isA_tuple, isA_list, isA_str, okD_shr, ix0_2, ix1_2, ix0_3, ix1_3, ix2_3, ix0_1, decide_eq_true_eq, Bool.not_eq_true', Bool.not_eq_false', Bool.not_not, Bool.not_true, Bool.not_false, decide_eq_false_iff_not, List.cons.injEq, and_true, exists_and_left, exists_eq_left, exists_eq_right, D.int.injEq, if_true, if_false, Bool.false_eq_true, reduceCtorEq, ite_true, ite_false, D.tup.injEq, D.bl.injEq, D.str.injEq, Int.cast_ofNat_Int, Int.reduceEq, not_true_eq_false, not_false_eq_true, wipeD, List.foldr_cons, List.foldr_nil, add_tt, addll_iff, slt_iff, sll_iff, lstt_iff, lstl_iff, tupt_iff, tupl_iff, len_l, sizeLine_eq, Nat.reduceLeDiff]⟩
    rintro d M1 ⟨rfl, rfl⟩
    simp only [startD, wpTg.eq_1, tg_tup, tg_fl, tg_cons, tg_nil, shr_non, shr_bl, shr_int, shr_str, shr_ty, shr_tup, shr_lst, shr_fz, shr_dct, shr_loc, shr_fr, List.map_cons, List.map_nil, List.length_cons, List.length_nil, List.cons_append, List.nil_append, List.replicate_succ, List.replicate_zero, List.set_cons_zero, List.set_cons_succ, Nat.zero_add, Nat.reduceAdd, Nat.reduceSub]
    refine ite_cut2 gm (R := fun d M1 => d = .bl false ∧ ∃ s' : Dk, M1 = s'.mem ++ [] ∧ s'.Ok) ?_ ?_
    · simp only [wss, ws, wp.eq_1, wp.eq_2, wp.eq_3, wp.eq_4, wp.eq_5, wp.eq_6, wp.eq_7, wp.eq_8, wp.eq_9, wp.eq_10, wp.eq_11, wp.eq_12, wp.eq_13, wp.eq_14, wp.eq_15, wp.eq_16, wp.eq_17, wp.eq_18, wp.eq_19, wp.eq_20, wp.eq_22, wp.eq_23, wp.eq_24, wp.eq_25, wps, wpO, wpK, wpP, wpC, wpI, wpTg.eq_1, tg_tup, tg_fl, tg_cons, tg_nil, bodyPo, startD, shr_non, shr_bl, shr_int, shr_str, shr_ty, shr_tup, shr_lst, shr_fz, shr_dct, shr_loc, shr_fr, truth_bl, true_and, add_ii, sub_ii, mul_ii, fdiv_ii, mod_ii, pow_ii, lt_ii, le_ii, gt_ii, ge_ii, len_t, abs_i, int_i, int_b, Es.len, List.map_cons, List.map_nil, List.length_cons, List.length_nil, List.cons_append, List.nil_append, List.replicate_succ, List.replicate_zero, List.getElem?_cons_zero, List.getElem?_cons_succ, List.set_cons_zero, List.set_cons_succ, Option.some.injEq, exists_eq_left', Nat.zero_add, Nat.reduceAdd, Nat.reduceSub, eq_iff, ne_iff, ess_iff, nss_iff, max_iff, min_iff, isA_int, isA_bool, isA_tuple, isA_list, isA_str, okD_shr, ix0_2, ix1_2, ix0_3, ix1_3, ix2_3, ix0_1, decide_eq_true_eq, Bool.not_eq_true', Bool.not_eq_false', Bool.not_not, Bool.not_true, Bool.not_false, decide_eq_false_iff_not, List.cons.injEq, and_true, exists_and_left, exists_eq_left, exists_eq_right, D.int.injEq, if_true, if_false, Bool.false_eq_true, reduceCtorEq, ite_true, ite_false, D.tup.injEq, D.bl.injEq, D.str.injEq, Int.cast_ofNat_Int, Int.reduceEq, not_true_eq_false, not_false_eq_true, wipeD, List.foldr_cons, List.foldr_nil, add_tt, addll_iff, slt_iff, sll_iff, lstt_iff, lstl_iff, tupt_iff, tupl_iff, len_l, sizeLine_eq, Nat.reduceLeDiff, esh, hto]
      refine ⟨m, ps, rfl, m2, m7, pl, u, ?_⟩
      simp only [wss, ws, wp.eq_1, wp.eq_2, wp.eq_3, wp.eq_4, wp.eq_5, wp.eq_6, wp.eq_7, wp.eq_8, wp.eq_9, wp.eq_10, wp.eq_11, wp.eq_12, wp.eq_13, wp.eq_14, wp.eq_15, wp.eq_16, wp.eq_17, wp.eq_18, wp.eq_19, wp.eq_20, wp.eq_22, wp.eq_23, wp.eq_24, wp.eq_25, wps, wpO, wpK, wpP, wpC, wpI, wpTg.eq_1, tg_tup, tg_fl, tg_cons, tg_nil, bodyPo, startD, shr_non, shr_bl, shr_int, shr_str, shr_ty, shr_tup, shr_lst, shr_fz, shr_dct, shr_loc, shr_fr, truth_bl, true_and, add_ii, sub_ii, mul_ii, fdiv_ii, mod_ii, pow_ii, lt_ii, le_ii, gt_ii, ge_ii, len_t, abs_i, int_i, int_b, Es.len, List.map_cons, List.map_nil, List.length_cons, List.length_nil, List.cons_append, List.nil_append, List.replicate_succ, List.replicate_zero, List.getElem?_cons_zero, List.getElem?_cons_succ, List.set_cons_zero, List.set_cons_succ, Option.some.injEq, exists_eq_left', Nat.zero_add, Nat.reduceAdd, Nat.reduceSub, eq_iff, ne_iff, ess_iff, nss_iff, max_iff, min_iff, isA_int, isA_bool, isA_tuple, isA_list, isA_str, okD_shr, ix0_2, ix1_2, ix0_3, ix1_3, ix2_3, ix0_1, decide_eq_true_eq, Bool.not_eq_true', Bool.not_eq_false', Bool.not_not, Bool.not_true, Bool.not_false, decide_eq_false_iff_not, List.cons.injEq, and_true, exists_and_left, exists_eq_left, exists_eq_right, D.int.injEq, if_true, if_false, Bool.false_eq_true, reduceCtorEq, ite_true, ite_false, D.tup.injEq, D.bl.injEq, D.str.injEq, Int.cast_ofNat_Int, Int.reduceEq, not_true_eq_false, not_false_eq_true, wipeD, List.foldr_cons, List.foldr_nil, add_tt, addll_iff, slt_iff, sll_iff, lstt_iff, lstl_iff, tupt_iff, tupl_iff, len_l, sizeLine_eq, Nat.reduceLeDiff, esh, hov]
      refine ⟨s2, m, ps, [], rfl, by simp, ok2, by omega, p0, u, fun s' ok' => ?_⟩
      simp only [wss, ws, wp.eq_1, wp.eq_2, wp.eq_3, wp.eq_4, wp.eq_5, wp.eq_6, wp.eq_7, wp.eq_8, wp.eq_9, wp.eq_10, wp.eq_11, wp.eq_12, wp.eq_13, wp.eq_14, wp.eq_15, wp.eq_16, wp.eq_17, wp.eq_18, wp.eq_19, wp.eq_20, wp.eq_22, wp.eq_23, wp.eq_24, wp.eq_25, wps, wpO, wpK, wpP, wpC, wpI, wpTg.eq_1, tg_tup, tg_fl, tg_cons, tg_nil, bodyPo, startD, shr_non, shr_bl, shr_int, shr_str, shr_ty, shr_tup, shr_lst, shr_fz, shr_dct, shr_loc, shr_fr, truth_bl, true_and, add_ii, sub_ii, mul_ii, fdiv_ii, mod_ii, pow_ii, lt_ii, le_ii, gt_ii, ge_ii, len_t, abs_i, int_i, int_b, Es.len, List.map_cons, List.map_nil, List.length_cons, List.length_nil, List.cons_append, List.nil_append, List.replicate_succ, List.replicate_zero, List.getElem?_cons_zero, List.getElem?_cons_succ, List.set_cons_zero, List.set_cons_succ, Option.some.injEq, exists_eq_left', Nat.zero_add, Nat.reduceAdd, Nat.reduceSub, eq_iff, ne_iff, ess_iff, nss_iff, max_iff, min_iff, isA_int, isA_bool, isA_tuple, isA_list, isA_str, okD_shr, ix0_2, ix1_2, ix0_3, ix1_3, ix2_3, ix0_1, decide_eq_true_eq, Bool.not_eq_true', Bool.not_eq_false', Bool.not_not, Bool.not_true, Bool.not_false, decide_eq_false_iff_not, List.cons.injEq, and_true, exists_and_left, exists_eq_left, exists_eq_right, D.int.injEq, if_true, if_false, Bool.false_eq_true, reduceCtorEq, ite_true, ite_false, D.tup.injEq, D.bl.injEq, D.str.injEq, Int.cast_ofNat_Int, Int.reduceEq, not_true_eq_false, not_false_eq_true, wipeD, List.foldr_cons, List.foldr_nil, add_tt, addll_iff, slt_iff, sll_iff, lstt_iff, lstl_iff, tupt_iff, tupl_iff, len_l, sizeLine_eq, Nat.reduceLeDiff, esh, hso]
      refine ⟨m, ps, rfl, m2, m7, pl, u, ?_⟩
      simp only [wss, ws, wp.eq_1, wp.eq_2, wp.eq_3, wp.eq_4, wp.eq_5, wp.eq_6, wp.eq_7, wp.eq_8, wp.eq_9, wp.eq_10, wp.eq_11, wp.eq_12, wp.eq_13, wp.eq_14, wp.eq_15, wp.eq_16, wp.eq_17, wp.eq_18, wp.eq_19, wp.eq_20, wp.eq_22, wp.eq_23, wp.eq_24, wp.eq_25, wps, wpO, wpK, wpP, wpC, wpI, wpTg.eq_1, tg_tup, tg_fl, tg_cons, tg_nil, bodyPo, startD, shr_non, shr_bl, shr_int, shr_str, shr_ty, shr_tup, shr_lst, shr_fz, shr_dct, shr_loc, shr_fr, truth_bl, true_and, add_ii, sub_ii, mul_ii, fdiv_ii, mod_ii, pow_ii, lt_ii, le_ii, gt_ii, ge_ii, len_t, abs_i, int_i, int_b, Es.len, List.map_cons, List.map_nil, List.length_cons, List.length_nil, List.cons_append, List.nil_append, List.replicate_succ, List.replicate_zero, List.getElem?_cons_zero, List.getElem?_cons_succ, List.set_cons_zero, List.set_cons_succ, Option.some.injEq, exists_eq_left', Nat.zero_add, Nat.reduceAdd, Nat.reduceSub, eq_iff, ne_iff, ess_iff, nss_iff, max_iff, min_iff, isA_int, isA_bool, isA_tuple, isA_list, isA_str, okD_shr, ix0_2, ix1_2, ix0_3, ix1_3, ix2_3, ix0_1, decide_eq_true_eq, Bool.not_eq_true', Bool.not_eq_false', Bool.not_not, Bool.not_true, Bool.not_false, decide_eq_false_iff_not, List.cons.injEq, and_true, exists_and_left, exists_eq_left, exists_eq_right, D.int.injEq, if_true, if_false, Bool.false_eq_true, reduceCtorEq, ite_true, ite_false, D.tup.injEq, D.bl.injEq, D.str.injEq, Int.cast_ofNat_Int, Int.reduceEq, not_true_eq_false, not_false_eq_true, wipeD, List.foldr_cons, List.foldr_nil, add_tt, addll_iff, slt_iff, sll_iff, lstt_iff, lstl_iff, tupt_iff, tupl_iff, len_l, sizeLine_eq, Nat.reduceLeDiff]
      exact ⟨s', rfl, ok'⟩
    rintro d M1 ⟨rfl, s3, rfl, ok3⟩
    rw [shr_bl, truth_bl, if_neg Bool.false_ne_true]
    show wss Γ (.cons _ _) _ _ _
    refine ite_cut gm (b := false) ?_ ?_
    · simp only [wss, ws, wp.eq_1, wp.eq_2, wp.eq_3, wp.eq_4, wp.eq_5, wp.eq_6, wp.eq_7, wp.eq_8, wp.eq_9, wp.eq_10, wp.eq_11, wp.eq_12, wp.eq_13, wp.eq_14, wp.eq_15, wp.eq_16, wp.eq_17, wp.eq_18, wp.eq_19, wp.eq_20, wp.eq_22, wp.eq_23, wp.eq_24, wp.eq_25, wps, wpO, wpK, wpP, wpC, wpI, wpTg.eq_1, tg_tup, tg_fl, tg_cons, tg_nil, bodyPo, startD, shr_non, shr_bl, shr_int, shr_str, shr_ty, shr_tup, shr_lst, shr_fz, shr_dct, shr_loc, shr_fr, truth_bl, true_and, add_ii, sub_ii, mul_ii, fdiv_ii, mod_ii, pow_ii, lt_ii, le_ii, gt_ii, ge_ii, len_t, abs_i, int_i, int_b, Es.len, List.map_cons, List.map_nil, List.length_cons, List.length_nil, List.cons_append, List.nil_append, List.replicate_succ, List.replicate_zero, List.getElem?_cons_zero, List.getElem?_cons_succ, List.set_cons_zero, List.set_cons_succ, Option.some.injEq, exists_eq_left', Nat.zero_add, Nat.reduceAdd, Nat.reduceSub, eq_iff, ne_iff, ess_iff, nss_iff, max_iff, min_iff, isA_int, isA_bool, isA_tuple, isA_list, isA_str, okD_shr, ix0_2, ix1_2, ix0_3, ix1_3, ix2_3, ix0_1, decide_eq_true_eq, Bool.not_eq_true', Bool.not_eq_false', Bool.not_not, Bool.not_true, Bool.not_false, decide_eq_false_iff_not, List.cons.injEq, and_true, exists_and_left, exists_eq_left, exists_eq_right, D.int.injEq, if_true, if_false, Bool.false_eq_true, reduceCtorEq, ite_true, ite_false, D.tup.injEq, D.bl.injEq, D.str.injEq, Int.cast_ofNat_Int, Int.reduceEq, not_true_eq_false, not_false_eq_true, wipeD, List.foldr_cons, List.foldr_nil, add_tt, addll_iff, slt_iff, sll_iff, lstt_iff, lstl_iff, tupt_iff, tupl_iff, len_l, sizeLine_eq, Nat.reduceLeDiff, esh]
      refine rpn ?_
      simp only [wss, ws, wp.eq_1, wp.eq_2, wp.eq_3, wp.eq_4, wp.eq_5, wp.eq_6, wp.eq_7, wp.eq_8, wp.eq_9, wp.eq_10, wp.eq_11, wp.eq_12, wp.eq_13, wp.eq_14, wp.eq_15, wp.eq_16, wp.eq_17, wp.eq_18, wp.eq_19, wp.eq_20, wp.eq_22, wp.eq_23, wp.eq_24, wp.eq_25, wps, wpO, wpK, wpP, wpC, wpI, wpTg.eq_1, tg_tup, tg_fl, tg_cons, tg_nil, bodyPo, startD, shr_non, shr_bl, shr_int, shr_str, shr_ty, shr_tup, shr_lst, shr_fz, shr_dct, shr_loc, shr_fr, truth_bl, true_and, add_ii, sub_ii, mul_ii, fdiv_ii, mod_ii, pow_ii, lt_ii, le_ii, gt_ii, ge_ii, len_t, abs_i, int_i, int_b, Es.len, List.map_cons, List.map_nil, List.length_cons, List.length_nil, List.cons_append, List.nil_append, List.replicate_succ, List.replicate_zero, List.getElem?_cons_zero, List.getElem?_cons_succ, List.set_cons_zero, List.set_cons_succ, Option.some.injEq, exists_eq_left', Nat.zero_add, Nat.reduceAdd, Nat.reduceSub, eq_iff, ne_iff, ess_iff, nss_iff, max_iff, min_iff, isA_int, isA_bool, isA_tuple, isA_list, isA_str, okD_shr, ix0_2, ix1_2, ix0_3, ix1_3, ix2_3, ix0_1, decide_eq_true_eq, Bool.not_eq_true', Bool.not_eq_false', Bool.not_not, Bool.not_true, Bool.not_false, decide_eq_false_iff_not, List.cons.injEq, and_true, exists_and_left, exists_eq_left, exists_eq_right, D.int.injEq, if_true, if_false, Bool.false_eq_true, reduceCtorEq, ite_true, ite_false, D.tup.injEq, D.bl.injEq, D.str.injEq, Int.cast_ofNat_Int, Int.reduceEq, not_true_eq_false, not_false_eq_true, wipeD, List.foldr_cons, List.foldr_nil, add_tt, addll_iff, slt_iff, sll_iff, lstt_iff, lstl_iff, tupt_iff, tupl_iff, len_l, sizeLine_eq, Nat.reduceLeDiff]
    rw [if_neg Bool.false_ne_true]
    exact ⟨s3, _, _, _, _, rfl, ok3, rfl⟩
theorem mo_sp_is_integer : SMono sp_is_integer := fun ds M X Q Q' k ⟨a, b, c, q⟩ => ⟨a, b, c, k _ _ q⟩
theorem mo_sp_is_road : SMono sp_is_road := fun ds M X Q Q' k ⟨a, b, c, d, e, q⟩ => ⟨a, b, c, d, e, k _ _ q⟩
theorem mo_sp_from : SMono sp_from := fun ds M X Q Q' k ⟨a, b, c, d, e, q⟩ => ⟨a, b, c, d, e, k _ _ q⟩
theorem mo_sp_places : SMono sp_places := fun ds M X Q Q' k ⟨a, b, c, d, e, f, q⟩ => ⟨a, b, c, d, e, f, fun ks h => k _ _ (q ks h)⟩
theorem mo_sp_leads : SMono sp_leads := fun ds M X Q Q' k ⟨a, b, c, d, e, f, g, h, i, j, l, m, n, q⟩ => ⟨a, b, c, d, e, f, g, h, i, j, l, m, n, fun t ht => k _ _ (q t ht)⟩
theorem mo_sp_ways : SMono sp_ways := fun ds M X Q Q' k ⟨a, b, c, d, e, f, g, q⟩ => ⟨a, b, c, d, e, f, g, k _ _ q⟩
theorem mo_sp_trip_count : SMono sp_trip_count := fun ds M X Q Q' k ⟨a, b, c, d, e, f, g, q⟩ => ⟨a, b, c, d, e, f, g, k _ _ q⟩
theorem mo_sp_trip_at : SMono sp_trip_at := fun ds M X Q Q' k ⟨a, b, v, c, d, e, f, g, h, q, x⟩ => ⟨a, b, v, c, d, e, f, g, h, fun n t h1 h2 h3 => k _ _ (q n t h1 h2 h3), x⟩
theorem mo_sp_due : SMono sp_due := fun ds M X Q Q' k ⟨a, b, c, d, e, f, q⟩ => ⟨a, b, c, d, e, f, k _ _ q⟩
theorem mo_sp_deck : SMono sp_deck := fun ds M X Q Q' k ⟨a, b, c, d, q⟩ => ⟨a, b, c, d, fun s' h => k _ _ (q s' h)⟩
theorem mo_sp_draw : SMono sp_draw := fun ds M X Q Q' k ⟨a, b, c, d, e, f, g, q⟩ => ⟨a, b, c, d, e, f, g, fun v s' h1 h2 h3 => k _ _ (q v s' h1 h2 h3)⟩
theorem mo_sp_pick : SMono sp_pick := fun ds M X Q Q' k ⟨a, b, c, d, e, f, g, h, i, j, l, m, q⟩ => ⟨a, b, c, d, e, f, g, h, i, j, l, m, fun v s' h1 h2 => k _ _ (q v s' h1 h2)⟩
theorem mo_sp_shuffled : SMono sp_shuffled := fun ds M X Q Q' k ⟨a, b, c, d, e, f, g, h, i, j, l, q⟩ => ⟨a, b, c, d, e, f, g, h, i, j, l, fun v s' h1 h2 => k _ _ (q v s' h1 h2)⟩
theorem mo_sp_net : SMono sp_net := fun ds M X Q Q' k ⟨a, b, c, d, e, f, g, h, i, j, l, q⟩ => ⟨a, b, c, d, e, f, g, h, i, j, l, fun v s' h1 h2 h3 h4 => k _ _ (q v s' h1 h2 h3 h4)⟩
theorem mo_sp_trips : SMono sp_trips := fun ds M X Q Q' k ⟨a, b, c, d, e, f, g, q⟩ => ⟨a, b, c, d, e, f, g, k _ _ q⟩
theorem mo_sp_together : SMono sp_together := fun ds M X Q Q' k ⟨a, b, c, d, e, f, g, q⟩ => ⟨a, b, c, d, e, f, g, k _ _ q⟩
theorem mo_sp_over : SMono sp_over := fun ds M X Q Q' k ⟨a, b, c, d, e, f, g, h, i, j, q⟩ => ⟨a, b, c, d, e, f, g, h, i, j, fun s' h1 => k _ _ (q s' h1)⟩
theorem mo_sp_so : SMono sp_so := fun ds M X Q Q' k ⟨a, b, c, d, e, f, g, q⟩ => ⟨a, b, c, d, e, f, g, k _ _ q⟩
theorem mo_sp_law : SMono sp_law := fun ds M X Q Q' k ⟨a, b, c, d, q⟩ => ⟨a, b, c, d, k _ _ q⟩
theorem law_start (ns : List Int) (hl : ns.length ≤ 63) (_ : ∀ i ∈ ns, Builtin.Int.intBits i ≤ 1048576) : sp_law [.fz (ns.map D.int)] [] (fun _ _ => False) fun d _ => d = .bl true := ⟨ns, rfl, rfl, hl, rfl⟩
end LK

set_option Elab.async false
set_option maxRecDepth 100000
set_option linter.all false
namespace LK
open PySem L2 Lay RZ PyProof.Rows
def Gk : Gam := fun f => if f = "is_integer" then sp_is_integer else if f = "is_road" then sp_is_road else if f = "roads_from" then sp_from else if f = "places_from" then sp_places else if f = "leads" then sp_leads else if f = "ways_on" then sp_ways else if f = "trip_count" then sp_trip_count else if f = "trip_at" then sp_trip_at else if f = "trip_error" then sp_due else if f = "_law_deck" then sp_deck else if f = "_law_draw" then sp_draw else if f = "_law_pick" then sp_pick else if f = "_law_shuffled" then sp_shuffled else if f = "_law_net" then sp_net else if f = "_law_trips" then sp_trips else if f = "_law_are_together" then sp_together else if f = "_law_goes_over" then sp_over else if f = "_law_are_trips_so" then sp_so else if f = "law" then sp_law else fun _ _ _ _ => False
theorem gq_is_integer : Gk "is_integer" = sp_is_integer := by kernel_rfl
theorem gq_is_road : Gk "is_road" = sp_is_road := by kernel_rfl
theorem gq_roads_from : Gk "roads_from" = sp_from := by kernel_rfl
theorem gq_places_from : Gk "places_from" = sp_places := by kernel_rfl
theorem gq_leads : Gk "leads" = sp_leads := by kernel_rfl
theorem gq_ways_on : Gk "ways_on" = sp_ways := by kernel_rfl
theorem gq_trip_count : Gk "trip_count" = sp_trip_count := by kernel_rfl
theorem gq_trip_at : Gk "trip_at" = sp_trip_at := by kernel_rfl
theorem gq_trip_error : Gk "trip_error" = sp_due := by kernel_rfl
theorem gq_law_deck : Gk "_law_deck" = sp_deck := by kernel_rfl
theorem gq_law_draw : Gk "_law_draw" = sp_draw := by kernel_rfl
theorem gq_law_pick : Gk "_law_pick" = sp_pick := by kernel_rfl
theorem gq_law_shuffled : Gk "_law_shuffled" = sp_shuffled := by kernel_rfl
theorem gq_law_net : Gk "_law_net" = sp_net := by kernel_rfl
theorem gq_law_trips : Gk "_law_trips" = sp_trips := by kernel_rfl
theorem gq_law_are_together : Gk "_law_are_together" = sp_together := by kernel_rfl
theorem gq_law_goes_over : Gk "_law_goes_over" = sp_over := by kernel_rfl
theorem gq_law_are_trips_so : Gk "_law_are_trips_so" = sp_so := by kernel_rfl
theorem gq_law : Gk "law" = sp_law := by kernel_rfl
theorem gm : GMono Gk := gm_if mo_sp_is_integer (gm_if mo_sp_is_road (gm_if mo_sp_from (gm_if mo_sp_places (gm_if mo_sp_leads (gm_if mo_sp_ways (gm_if mo_sp_trip_count (gm_if mo_sp_trip_at (gm_if mo_sp_due (gm_if mo_sp_deck (gm_if mo_sp_draw (gm_if mo_sp_pick (gm_if mo_sp_shuffled (gm_if mo_sp_net (gm_if mo_sp_trips (gm_if mo_sp_together (gm_if mo_sp_over (gm_if mo_sp_so (gm_if mo_sp_law (gm_no)))))))))))))))))))
theorem the_ex {P : Program} {K : PySem.W.Frag} {h : Heap} {mg : Str → Option Value} {X0 X1 : Addr} (kin : K.In h) (G : h.Ns mainGlobals mg) (u0 : PySem.W.nsIn K mainGlobals "BadText" = some none) (u1 : PySem.W.nsIn K mainGlobals "BadNet" = some none) (u2 : PySem.W.nsIn K mainGlobals "BadTally" = some none) (u3 : PySem.W.nsIn K mainGlobals "TooMany" = some none) (u4 : PySem.W.nsIn K mainGlobals "NoName" = some none) (u5 : PySem.W.nsIn K mainGlobals "Taken" = some none) (u6 : PySem.W.nsIn K mainGlobals "Ring" = some none) (u7 : PySem.W.nsIn K mainGlobals "NothingToUndo" = some none) (u8 : PySem.W.nsIn K mainGlobals "TooManyEdits" = some none) (u9 : PySem.W.nsIn K mainGlobals "BadLog" = some none) (us : PySem.W.nsIn K mainGlobals "super" = some none) (e0 : PySem.W.nsIn K mainGlobals "Unfit" = some (some (.ref X0))) (e1 : PySem.W.nsIn K mainGlobals "TripError" = some (some (.ref X1))) (x0 : HX P K X0 none) (xt : Tgt K X1) (s0 : PySem.W.subIn K (.ref X0) (.ref X0) = some true) (s1 : PySem.W.subIn K (.ref X0) (.ref X1) = some true) : Exs P K mg := by
  have u0 := PySem.W.mg_none_of kin G u0
  have u1 := PySem.W.mg_none_of kin G u1
  have u2 := PySem.W.mg_none_of kin G u2
  have u3 := PySem.W.mg_none_of kin G u3
  have u4 := PySem.W.mg_none_of kin G u4
  have u5 := PySem.W.mg_none_of kin G u5
  have u6 := PySem.W.mg_none_of kin G u6
  have u7 := PySem.W.mg_none_of kin G u7
  have u8 := PySem.W.mg_none_of kin G u8
  have u9 := PySem.W.mg_none_of kin G u9
  have us := PySem.W.mg_none_of kin G us
  have e0 := PySem.W.mg_of kin G e0
  have e1 := PySem.W.mg_of kin G e1
  have names : ∀ x f, xFields.lookup x = some f → (x = "Unfit" ∧ f = none) ∨ (x = "BadText" ∧ f = some ("place" : Str)) ∨ (x = "BadNet" ∧ f = some ("error" : Str)) ∨ (x = "BadTally" ∧ f = some ("error" : Str)) ∨ (x = "TooMany" ∧ f = some ("limit" : Str)) ∨ (x = "NoName" ∧ f = some ("given" : Str)) ∨ (x = "Taken" ∧ f = some ("given" : Str)) ∨ (x = "Ring" ∧ f = some ("names" : Str)) ∨ (x = "NothingToUndo" ∧ f = none) ∨ (x = "TooManyEdits" ∧ f = none) ∨ (x = "BadLog" ∧ f = some ("place" : Str)) := by
    intro x f hx
    have := PySem.mem_of_lookup hx
    unfold xFields at this
    simpa only [List.mem_cons, List.not_mem_nil, or_false, Prod.mk.injEq] using this
  have tgs : ∀ y, tgX y = true → y = "TripError" ∨ ∃ f, xFields.lookup y = some f := by
    intro y hy
    unfold tgX xNm at hy
    rcases Bool.or_eq_true _ _ ▸ hy with z | z
    · exact .inl (of_decide_eq_true z)
    · exact .inr (Option.isSome_iff_exists.mp z)
  refine ⟨us, fun x f hx => ?_, fun y hy => ?_, fun x y C T hx hy hC hT => ?_⟩
  · rcases names x f hx with ⟨rfl, rfl⟩ | ⟨rfl, rfl⟩ | ⟨rfl, rfl⟩ | ⟨rfl, rfl⟩ | ⟨rfl, rfl⟩ | ⟨rfl, rfl⟩ | ⟨rfl, rfl⟩ | ⟨rfl, rfl⟩ | ⟨rfl, rfl⟩ | ⟨rfl, rfl⟩ | ⟨rfl, rfl⟩
    · exact .inr ⟨_, e0, x0.1, x0.2.1⟩
    · exact .inl u0
    · exact .inl u1
    · exact .inl u2
    · exact .inl u3
    · exact .inl u4
    · exact .inl u5
    · exact .inl u6
    · exact .inl u7
    · exact .inl u8
    · exact .inl u9
  · rcases tgs y hy with rfl | ⟨f, hf⟩
    · exact .inr ⟨_, e1, xt⟩
    · rcases names y f hf with ⟨rfl, rfl⟩ | ⟨rfl, rfl⟩ | ⟨rfl, rfl⟩ | ⟨rfl, rfl⟩ | ⟨rfl, rfl⟩ | ⟨rfl, rfl⟩ | ⟨rfl, rfl⟩ | ⟨rfl, rfl⟩ | ⟨rfl, rfl⟩ | ⟨rfl, rfl⟩ | ⟨rfl, rfl⟩
      · exact .inr ⟨_, e0, x0.2.2⟩
      · exact .inl u0
      · exact .inl u1
      · exact .inl u2
      · exact .inl u3
      · exact .inl u4
      · exact .inl u5
      · exact .inl u6
      · exact .inl u7
      · exact .inl u8
      · exact .inl u9
  · obtain ⟨f, hf⟩ := Option.isSome_iff_exists.mp (show (xFields.lookup x).isSome = true from hx)
    rcases names x f hf with ⟨rfl, rfl⟩ | ⟨rfl, rfl⟩ | ⟨rfl, rfl⟩ | ⟨rfl, rfl⟩ | ⟨rfl, rfl⟩ | ⟨rfl, rfl⟩ | ⟨rfl, rfl⟩ | ⟨rfl, rfl⟩ | ⟨rfl, rfl⟩ | ⟨rfl, rfl⟩ | ⟨rfl, rfl⟩
    · rw [e0] at hC; cases hC
      rcases tgs y hy with rfl | ⟨g, hg⟩
      · rw [e1] at hT; cases hT; exact s1
      · rcases names y g hg with ⟨rfl, rfl⟩ | ⟨rfl, rfl⟩ | ⟨rfl, rfl⟩ | ⟨rfl, rfl⟩ | ⟨rfl, rfl⟩ | ⟨rfl, rfl⟩ | ⟨rfl, rfl⟩ | ⟨rfl, rfl⟩ | ⟨rfl, rfl⟩ | ⟨rfl, rfl⟩ | ⟨rfl, rfl⟩
        · rw [e0] at hT; cases hT; exact s0
        · rw [u0] at hT; cases hT
        · rw [u1] at hT; cases hT
        · rw [u2] at hT; cases hT
        · rw [u3] at hT; cases hT
        · rw [u4] at hT; cases hT
        · rw [u5] at hT; cases hT
        · rw [u6] at hT; cases hT
        · rw [u7] at hT; cases hT
        · rw [u8] at hT; cases hT
        · rw [u9] at hT; cases hT
    · rw [u0] at hC; cases hC
    · rw [u1] at hC; cases hC
    · rw [u2] at hC; cases hC
    · rw [u3] at hC; cases hC
    · rw [u4] at hC; cases hC
    · rw [u5] at hC; cases hC
    · rw [u6] at hC; cases hC
    · rw [u7] at hC; cases hC
    · rw [u8] at hC; cases hC
    · rw [u9] at hC; cases hC
theorem the_all {X0 X1 : Addr} {P : Program} {w : World} {K : PySem.W.Frag} {h : Heap} {mg : Str → Option Value} {fa : Addr} (kin : K.In h) (G : h.Ns mainGlobals mg) (hfa : mg "law" = some (.ref fa)) {t0 : Tok} (z : ∀ y ∈ bNames, PySem.W.nsIn K mainGlobals y = some none) (ex : Exs P K mg)
    (m0 : PySem.W.nsIn K mainGlobals "MAX_ROADS" = some (some (.int 60 t0))) (e0 : PySem.W.nsIn K mainGlobals "Unfit" = some (some (.ref X0))) (e1 : PySem.W.nsIn K mainGlobals "TripError" = some (some (.ref X1))) (h0 : Here K "is_integer" (top 5)) (h1 : Here K "is_road" (top 6)) (h2 : Here K "roads_from" (top 7)) (h3 : Here K "places_from" (top 8)) (h4 : Here K "leads" (top 9)) (h5 : Here K "ways_on" (top 10)) (h6 : Here K "trip_count" (top 11)) (h7 : Here K "trip_at" (top 12)) (h8 : Here K "trip_error" (top 13)) (h9 : Here K "_law_deck" (top 15)) (h10 : Here K "_law_draw" (top 16)) (h11 : Here K "_law_pick" (top 17)) (h12 : Here K "_law_shuffled" (top 18)) (h13 : Here K "_law_net" (top 19)) (h14 : Here K "_law_trips" (top 20)) (h15 : Here K "_law_are_together" (top 21)) (h16 : Here K "_law_goes_over" (top 22)) (h17 : Here K "_law_are_trips_so" (top 23)) (h18 : Here K "law" (top 24)) :
    ∃ fd : FuncData, (∀ (s : Shared) (u : Value), BindsTo s fd ⟨[u], []⟩ [("_law_script", u)]) ∧ ∀ base : Heap, K.In base → base.Ns mainGlobals mg → (∃ o, base.get? sysModules = some o) → FnG P w K mg base 22 fa fd ["_law_script"] sp_law := by
  have hmg : ∀ y v, PySem.W.nsIn K mainGlobals y = some (some v) → mg y = some v := fun y v e => PySem.W.mg_of kin G e
  have hbt : ∀ y ∈ bNames, mg y = none := fun y hy => PySem.W.mg_none_of kin G (z y hy)
  have hxp : ∀ x ∈ xs, mg x ≠ none := by
    simp only [xs, List.forall_mem_cons]
    exact ⟨(fun z => by rw [PySem.W.mg_of kin G e1] at z; cases z), (fun z => by rw [PySem.W.mg_of kin G e0] at z; cases z), (fun _ hx => nomatch hx)⟩
  have hgl : Glo K mg gs := by
    intro x d hx
    unfold gs at hx
    rcases List.mem_cons.mp hx with e | hx
    · cases e; exact ⟨(.int 60), _, hmg _ _ m0, ⟨t0, rfl⟩, fun _ _ => .int _⟩
    exact nomatch hx
  obtain ⟨fd, hb, F⟩ := law_fn (P := P) (w := w) (k := 21) (Γ := Gk) (c := cc_law) (by decide) ex hxp hfa hmg hbt hgl h18 rfl rfl rfl fn_law ar_law co_law (fun ds M X Q hl q => w_law Gk gm gq_law_deck gq_law_pick gq_law_net gq_law_trips gq_law_are_together gq_law_goes_over gq_law_are_trips_so ds M X Q hl (by rw [gq_law] at q; exact q))
  refine ⟨fd, hb, fun base kb Gb sys => ?_⟩
  have T0 : Tab P w K mg base Gk 3 [] := Tab.nil
  have T1 : Tab P w K mg base Gk 4 fs_is_integer := step (c := cc_is_integer) T0 hmg hbt sys hgl h0 rfl rfl fn_is_integer ar_is_integer (by decide) ex hxp co_is_integer (fun ds M X Q hl q => w_is_integer Gk  ds M X Q hl (by rw [gq_is_integer] at q; exact q))
  have T2 : Tab P w K mg base Gk 5 fs_is_road := step (c := cc_is_road) T1 hmg hbt sys hgl h1 rfl rfl fn_is_road ar_is_road (by decide) ex hxp co_is_road (fun ds M X Q hl q => w_is_road Gk gm gq_is_integer ds M X Q hl (by rw [gq_is_road] at q; exact q))
  have T3 : Tab P w K mg base Gk 6 fs_roads_from := step (c := cc_roads_from) T2 hmg hbt sys hgl h2 rfl rfl fn_roads_from ar_roads_from (by decide) ex hxp co_roads_from (fun ds M X Q hl q => w_roads_from Gk gm ds M X Q hl (by rw [gq_roads_from] at q; exact q))
  have T4 : Tab P w K mg base Gk 7 fs_places_from := step (c := cc_places_from) T3 hmg hbt sys hgl h3 rfl rfl fn_places_from ar_places_from (by decide) ex hxp co_places_from (fun ds M X Q hl q => w_places_from Gk gm ds M X Q hl (by rw [gq_places_from] at q; exact q))
  have T5 : Tab P w K mg base Gk 8 fs_leads := step (c := cc_leads) T4 hmg hbt sys hgl h4 rfl rfl fn_leads ar_leads (by decide) ex hxp co_leads (fun ds M X Q hl q => w_leads Gk gm gq_places_from ds M X Q hl (by rw [gq_leads] at q; exact q))
  have T6 : Tab P w K mg base Gk 9 fs_ways_on := step (c := cc_ways_on) T5 hmg hbt sys hgl h5 rfl rfl fn_ways_on ar_ways_on (by decide) ex hxp co_ways_on (fun ds M X Q hl q => w_ways_on Gk gm ds M X Q hl (by rw [gq_ways_on] at q; exact q))
  have T7 : Tab P w K mg base Gk 10 fs_trip_count := step (c := cc_trip_count) T6 hmg hbt sys hgl h6 rfl rfl fn_trip_count ar_trip_count (by decide) ex hxp co_trip_count (fun ds M X Q hl q => w_trip_count Gk gm gq_ways_on ds M X Q hl (by rw [gq_trip_count] at q; exact q))
  have T8 : Tab P w K mg base Gk 11 fs_trip_at := step (c := cc_trip_at) T7 hmg hbt sys hgl h7 rfl rfl fn_trip_at ar_trip_at (by decide) ex hxp co_trip_at (fun ds M X Q hl q => w_trip_at Gk gm gq_is_integer gq_roads_from gq_ways_on ds M X Q hl (by rw [gq_trip_at] at q; exact q))
  have T9 : Tab P w K mg base Gk 12 fs_trip_error := step (c := cc_trip_error) T8 hmg hbt sys hgl h8 rfl rfl fn_trip_error ar_trip_error (by decide) ex hxp co_trip_error (fun ds M X Q hl q => w_trip_error Gk gm gq_is_road ds M X Q hl (by rw [gq_trip_error] at q; exact q))
  have T10 : Tab P w K mg base Gk 13 fs_law_deck := step (c := cc_law_deck) T9 hmg hbt sys hgl h9 rfl rfl fn_law_deck ar_law_deck (by decide) ex hxp co_law_deck (fun ds M X Q hl q => w_deck Gk gm ds M X Q hl (by rw [gq_law_deck] at q; exact q))
  have T11 : Tab P w K mg base Gk 14 fs_law_draw := step (c := cc_law_draw) T10 hmg hbt sys hgl h10 rfl rfl fn_law_draw ar_law_draw (by decide) ex hxp co_law_draw (fun ds M X Q hl q => w_draw Gk  ds M X Q hl (by rw [gq_law_draw] at q; exact q))
  have T12 : Tab P w K mg base Gk 15 fs_law_pick := step (c := cc_law_pick) T11 hmg hbt sys hgl h11 rfl rfl fn_law_pick ar_law_pick (by decide) ex hxp co_law_pick (fun ds M X Q hl q => w_pick Gk gq_law_draw ds M X Q hl (by rw [gq_law_pick] at q; exact q))
  have T13 : Tab P w K mg base Gk 16 fs_law_shuffled := step (c := cc_law_shuffled) T12 hmg hbt sys hgl h12 rfl rfl fn_law_shuffled ar_law_shuffled (by decide) ex hxp co_law_shuffled (fun ds M X Q hl q => w_shuffled Gk gq_law_draw ds M X Q hl (by rw [gq_law_shuffled] at q; exact q))
  have T14 : Tab P w K mg base Gk 17 fs_law_net := step (c := cc_law_net) T13 hmg hbt sys hgl h13 rfl rfl fn_law_net ar_law_net (by decide) ex hxp co_law_net (fun ds M X Q hl q => w_net Gk gm gq_law_draw gq_law_pick gq_law_shuffled ds M X Q hl (by rw [gq_law_net] at q; exact q))
  have T15 : Tab P w K mg base Gk 18 fs_law_trips := step (c := cc_law_trips) T14 hmg hbt sys hgl h14 rfl rfl fn_law_trips ar_law_trips (by decide) ex hxp co_law_trips (fun ds M X Q hl q => w_law_trips Gk gm ds M X Q hl (by rw [gq_law_trips] at q; exact q))
  have T16 : Tab P w K mg base Gk 19 fs_law_are_together := step (c := cc_law_are_together) T15 hmg hbt sys hgl h15 rfl rfl fn_law_are_together ar_law_are_together (by decide) ex hxp co_law_are_together (fun ds M X Q hl q => w_law_are_together Gk gm gq_leads ds M X Q hl (by rw [gq_law_are_together] at q; exact q))
  have T17 : Tab P w K mg base Gk 20 fs_law_goes_over := step (c := cc_law_goes_over) T16 hmg hbt sys hgl h16 rfl rfl fn_law_goes_over ar_law_goes_over (by decide) ex hxp co_law_goes_over (fun ds M X Q hl q => w_law_goes_over Gk gm gq_law_draw gq_leads ds M X Q hl (by rw [gq_law_goes_over] at q; exact q))
  have T18 : Tab P w K mg base Gk 21 fs_law_are_trips_so := step (c := cc_law_are_trips_so) T17 hmg hbt sys hgl h17 rfl rfl fn_law_are_trips_so ar_law_are_trips_so (by decide) ex hxp co_law_are_trips_so (fun ds M X Q hl q => w_law_are_trips_so Gk gm gq_trip_count gq_trip_at gq_trip_error ds M X Q hl (by rw [gq_law_are_trips_so] at q; exact q))
  have R := F base T18 sys
  rw [gq_law] at R
  exact R
theorem the_walk {l : PySem.W.OpenLaw} {q : Program} {loose : List Str} {XP : (Str → Option Value) → Heap → Prop} {YP : World → Heap → Prop} {d : DefRec} {K : Params → PySem.W.Frag} (hn : l.most = some 63) (hdf : d.params.defaults = []) (himp : importsNone q = true)
    (hY : ∀ (w : World) (h : Heap), YP w h → (K w.params).In h)
    (F : ∀ (w : World) (mg : Str → Option Value) (fa : Addr) (h : Heap), (K w.params).In h → h.Ns mainGlobals mg → mg d.name = some (.ref fa) → ∃ fd : FuncData, (∀ (s : Shared) (u : Value), BindsTo s fd ⟨[u], []⟩ [("_law_script", u)]) ∧
      ∀ base : Heap, (K w.params).In base → base.Ns mainGlobals mg → (∃ o, base.get? sysModules = some o) → FnG l.prog w (K w.params) mg base 22 fa fd ["_law_script"] sp_law) :
    PySem.W.WalkO q loose XP YP l.row.toRowW d [] (fun f vs => PySem.call f vs) :=
  walk_lay (n := 63) (k := 22) (x := "_law_script") (S := sp_law) hn (by decide) hdf ⟨rfl, by decide, by decide⟩ himp hY F fun ns hl hb => law_start ns hl hb
end LK
open PySem PySem.W PyProof.Rows in
set_option maxRecDepth 100000 in
set_option maxHeartbeats 0 in
theorem PySem.Challenge.cw_suretrips_k07_whole_what_stands_in_trips_holds : PySem.Challenge.rw_suretrips_k07_whole_what_stands_in_trips.Holds := by
  w_on; o_law; k_head; (case hw => w_witness2)
  k_fill
  refine LK.the_walk (l := PySem.Challenge.rw_suretrips_k07_whole_what_stands_in_trips) rfl rfl ?imp (fun w h Y => PySem.W.kIn_of Y) ?F
  case imp => first | rfl | decide +kernel
  case F =>
    intro w mg fa h KX G hmg
    refine' LK.the_all KX G hmg ?z (LK.the_ex KX G ?u0 ?u1 ?u2 ?u3 ?u4 ?u5 ?u6 ?u7 ?u8 ?u9 ?us ?f0 ?f1 (Lay.hx_mk0 (Lay.oex_mk ?x0l ?x0v ?x0a ?x0b ?x0t ?x0k) (Lay.exc_mk ?x0g ?x0h ?x0b2 ?x0d ?x0c ?x0s ?x0w ?x0o) ?x0tt ?x0i ?x0ti ?x0lf ?x0cf ?x0lc ?x0v2 ?x0fl ?x0tp ?x0ce ?x0sc ?x0hl ?x0sup ?x0ve ?x0se ?x0op) ⟨?xtb, ?xtd, ?xtt⟩ ?s0 ?s1) ?m0 ?e0 ?e1 (Lay.here_mk ?a0 ?l0 ?c0 ?k0) (Lay.here_mk ?a1 ?l1 ?c1 ?k1) (Lay.here_mk ?a2 ?l2 ?c2 ?k2) (Lay.here_mk ?a3 ?l3 ?c3 ?k3) (Lay.here_mk ?a4 ?l4 ?c4 ?k4) (Lay.here_mk ?a5 ?l5 ?c5 ?k5) (Lay.here_mk ?a6 ?l6 ?c6 ?k6) (Lay.here_mk ?a7 ?l7 ?c7 ?k7) (Lay.here_mk ?a8 ?l8 ?c8 ?k8) (Lay.here_mk ?a9 ?l9 ?c9 ?k9) (Lay.here_mk ?a10 ?l10 ?c10 ?k10) (Lay.here_mk ?a11 ?l11 ?c11 ?k11) (Lay.here_mk ?a12 ?l12 ?c12 ?k12) (Lay.here_mk ?a13 ?l13 ?c13 ?k13) (Lay.here_mk ?a14 ?l14 ?c14 ?k14) (Lay.here_mk ?a15 ?l15 ?c15 ?k15) (Lay.here_mk ?a16 ?l16 ?c16 ?k16) (Lay.here_mk ?a17 ?l17 ?c17 ?k17) (Lay.here_mk ?a18 ?l18 ?c18 ?k18)
    (case z => simp only [Lay.bNames, List.forall_mem_cons]; refine ⟨by k_is, by k_is, by k_is, by k_is, by k_is, by k_is, by k_is, by k_is, by k_is, by k_is, by k_is, by k_is, by k_is, by k_is, by k_is, by k_is, by k_is, by k_is, by k_is, by k_is, fun _ hx => nomatch hx⟩)
    (case e0 => k_is)
    (case e1 => k_is)
    (case u0 => k_is)
    (case u1 => k_is)
    (case u2 => k_is)
    (case u3 => k_is)
    (case u4 => k_is)
    (case u5 => k_is)
    (case u6 => k_is)
    (case u7 => k_is)
    (case u8 => k_is)
    (case u9 => k_is)
    (case us => k_is)
    (case f0 => k_is)
    (case f1 => k_is)
    (case x0l => k_is); (case x0v => decide +kernel); (case x0a => k_is); (case x0b => k_is); (case x0t => k_is); (case x0k => k_is); (case x0g => k_is); (case x0h => k_is); (case x0b2 => k_is); (case x0d => k_is); (case x0c => k_is); (case x0s => k_is); (case x0w => k_is); (case x0o => k_is); (case x0tt => k_is); (case x0i => k_is); (case x0ti => k_is); (case x0lf => k_is); (case x0cf => k_is); (case x0lc => k_is); (case x0v2 => rfl); (case x0fl => first | rfl | decide +kernel); (case x0tp => first | rfl | decide +kernel); (case x0ce => k_is); (case x0sc => decide +kernel); (case x0hl => first | rfl | decide +kernel); (case x0sup => kernel_rfl); (case x0ve => k_is); (case x0se => k_is); (case x0op => k_is)
    (case xtb => k_is); (case xtd => k_is); (case xtt => k_is)
    (case s0 => first | rfl | k_is)
    (case s1 => first | rfl | k_is)
    (case m0 => k_is)
    (case a0 => k_is)
    (case l0 => k_is)
    (case c0 => k_is)
    (case k0 => k_is)
    (case a1 => k_is)
    (case l1 => k_is)
    (case c1 => k_is)
    (case k1 => k_is)
    (case a2 => k_is)
    (case l2 => k_is)
    (case c2 => k_is)
    (case k2 => k_is)
    (case a3 => k_is)
    (case l3 => k_is)
    (case c3 => k_is)
    (case k3 => k_is)
    (case a4 => k_is)
    (case l4 => k_is)
    (case c4 => k_is)
    (case k4 => k_is)
    (case a5 => k_is)
    (case l5 => k_is)
    (case c5 => k_is)
    (case k5 => k_is)
    (case a6 => k_is)
    (case l6 => k_is)
    (case c6 => k_is)
    (case k6 => k_is)
    (case a7 => k_is)
    (case l7 => k_is)
    (case c7 => k_is)
    (case k7 => k_is)
    (case a8 => k_is)
    (case l8 => k_is)
    (case c8 => k_is)
    (case k8 => k_is)
    (case a9 => k_is)
    (case l9 => k_is)
    (case c9 => k_is)
    (case k9 => k_is)
    (case a10 => k_is)
    (case l10 => k_is)
    (case c10 => k_is)
    (case k10 => k_is)
    (case a11 => k_is)
    (case l11 => k_is)
    (case c11 => k_is)
    (case k11 => k_is)
    (case a12 => k_is)
    (case l12 => k_is)
    (case c12 => k_is)
    (case k12 => k_is)
    (case a13 => k_is)
    (case l13 => k_is)
    (case c13 => k_is)
    (case k13 => k_is)
    (case a14 => k_is)
    (case l14 => k_is)
    (case c14 => k_is)
    (case k14 => k_is)
    (case a15 => k_is)
    (case l15 => k_is)
    (case c15 => k_is)
    (case k15 => k_is)
    (case a16 => k_is)
    (case l16 => k_is)
    (case c16 => k_is)
    (case k16 => k_is)
    (case a17 => k_is)
    (case l17 => k_is)
    (case c17 => k_is)
    (case k17 => k_is)
    (case a18 => k_is)
    (case l18 => k_is)
    (case c18 => k_is)
    (case k18 => k_is)
