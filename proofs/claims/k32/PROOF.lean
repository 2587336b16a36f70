import PyProof.Rows.All
import Wide.All
import OpenK.AllK
import Wide.FinOn
import KE.KDictKeyed
import HandS.Base
import HandS.Call
import HandS.List
import HandS.Words
import HandS.Exc
import HandS.TupSets
import HandS.TupAny
import HandS.TupMul
import HandS.Style
import HandS.More
import HandS.IsInst
import HandS.Flow
import HandS.Wide
import PyProof.Rows.InDataRows
import PyProof.ReprRoads
import PyProof.StrLawsRepr
import HandS.RaiseMore
import HandS.Comp
import HandS.Iter
import HandS.Zip
import KE.GoesEnum
import KE.SortData
import KE.KStateDown
import HandS.Defaults
import HandS.Head0
import HandS.Head1
import HandS.Head2
import HandS.HeadEnd
import HandS.HeadHook1
import HandS.HeadHook2
import PySem.Challenge.RW_flagplans_k32_endless_plans_and_links
set_option Elab.async false
set_option linter.all false
set_option maxRecDepth 100000
set_option maxHeartbeats 4000000
/-! Mini, part 1: values as trees and cells, and how they lie in the abstract heap. -/
namespace Mini
open PySem PySem.Spec PyProof.Rows L2

/-- a value: immutable data and objects that nobody changes any more as trees; an object that may change by its number -/
inductive MV where
  | non
  | bl (b : Bool)
  | int (i : Int)
  | str (x : Str)
  | tup (xs : List MV)
  | fl (xs : List MV)
  | sc (xs : List MV)
  | fd (ks vs : List MV)
  | fs (xs : List MV)
  | fi (c : Nat) (vs : List MV)
  | ex (c : Nat) (vs : List MV)
  | ref (n : Nat)

/-- an object that may change -/
inductive Cell where
  | lst (xs : List MV)
  | dct (ks vs : List MV)
  | st (xs : List MV)
  | ins (c : Nat) (vs : List MV)

abbrev MHp := List Cell
abbrev MSt := List (Option MV)

/-- how the text's classes lie: the address of each, the names of its fields in the order of their first store -/
structure Lay where
  w : World
  cls : Nat → Addr
  fld : Nat → List Str
  /-- objects that are being made: no value leads to them -/
  hid : Addr → Prop

/-- other hidden objects -/
def Lay.re (Y : Lay) (hid : Addr → Prop) : Lay := { Y with hid := hid }
/-! ### keys -/
mutual
def MV.key : MV → Option NestedKey
  | .non => some .none
  | .bl b => some (.num (if b = true then 1 else 0))
  | .int i => some (.num i)
  | .str x => some (.text x)
  | .tup xs => (keyAll xs).map .tup
  | _ => none
def keyAll : List MV → Option (List NestedKey)
  | [] => some []
  | x :: xs => match x.key, keyAll xs with
    | some k, some ks => some (k :: ks)
    | _, _ => none
end

/-! ### dicts, sets and exceptions as objects -/
abbrev DEnt := NestedKey × V × V
abbrev SEnt := NestedKey × V
/-- a dict: for each entry its key's hash, its key, its value -/
def dO (w : World) (a : Addr) (es : List DEnt) : HO := .ext fun h => ∃ o ds ep, h.get? a = some o ∧ o.ExactDict ∧ o.data = .dict ds ep ∧
  Paired (fun (p : DEnt) (e : DictEntry) => e.hash = p.1.hash w ∧ RelV p.2.1 e.key ∧ RelV p.2.2 e.val) es ds.toList
structure DGood (a : Addr) (ks : List MV) (es : List DEnt) : Prop where
  keys : ks.map MV.key = es.map fun e => some e.1
  nd : (es.map (·.1)).Nodup
  len : es.length ≤ sizeLine
  sys : (a == sysModules) = false
/-- a set: its rows in the table's order -/
def sO (w : World) (a : Addr) (es : List SEnt) : HO := .ext fun h => ∃ o rs ep t, h.get? a = some o ∧ o.ExactSet ∧ o.data = .set rs ep t ∧
  Paired (fun (p : SEnt) (e : Int × Value) => e.1 = p.1.hash w ∧ RelV p.2 e.2) es rs.toList ∧
  TabOk t (es.map fun p => p.1.hash w) ∧ t.plain = true ∧ (w.params.followText "set-order" = true ∨ t.led = true) ∧ es.length * 5 < t.mask * 3
structure SGood (xs : List MV) (es : List SEnt) : Prop where
  keys : xs.map MV.key = es.map fun e => some e.1
  nd : (es.map (·.1)).Nodup
  len : es.length < 64
/-- an exception that is held: its class, its dict -/
def eO (a C : Addr) (d : Option Addr) : HO := .ext fun h => ∃ oe vs, h.get? a = some oe ∧ Zc (.ref C) d oe ∧ oe.data = .fields vs

/-- neither a cell nor hidden -/
def Off (Y : Lay) (ι : Nat → Addr) (n : Nat) (a : Addr) : Prop := ¬ Y.hid a ∧ ∀ i, i < n → ι i ≠ a
/-! ### how a value lies: cell i at ι i, n cells -/
mutual
inductive Rep (Y : Lay) (ι : Nat → Addr) (n : Nat) (H : Hp) : MV → V → Prop
  | non : Rep Y ι n H .non .non
  | bl (b : Bool) : Rep Y ι n H (.bl b) (.bl b)
  | int (i : Int) : Rep Y ι n H (.int i) (.int i)
  | str (x : Str) : Rep Y ι n H (.str x) (.str x)
  | tup {xs : List MV} {vs : List V} {a : Addr} : H a = some (.tup vs) → RepAll Y ι n H xs vs → Rep Y ι n H (.tup xs) (.ref a)
  | fl {xs : List MV} {vs : List V} {a : Addr} : H a = some (.lst vs) → Off Y ι n a → RepAll Y ι n H xs vs → Rep Y ι n H (.fl xs) (.ref a)
  | sc {xs : List MV} {vs : List V} {a : Addr} : Rd H a (.lst vs) → Off Y ι n a → RepAll Y ι n H xs vs → Rep Y ι n H (.sc xs) (.ref a)
  | fd {ks xs : List MV} {es : List DEnt} {a : Addr} : H a = some (dO Y.w a es) → Off Y ι n a → DGood a ks es → RepAll Y ι n H ks (es.map (·.2.1)) → RepAll Y ι n H xs (es.map (·.2.2)) → Rep Y ι n H (.fd ks xs) (.ref a)
  | fs {xs ys : List MV} {es : List SEnt} {a : Addr} : H a = some (sO Y.w a es) → Off Y ι n a → ys.Perm xs → SGood ys es → RepAll Y ι n H ys (es.map (·.2)) → Rep Y ι n H (.fs xs) (.ref a)
  | fi {c : Nat} {xs : List MV} {ys : List V} {a dx : Addr} : H a = some (.ins (Y.cls c) dx ((Y.fld c).zip ys)) → Off Y ι n a → ys.length ≤ (Y.fld c).length → RepAll Y ι n H xs ys → Rep Y ι n H (.fi c xs) (.ref a)
  | ex0 {c : Nat} {a : Addr} : H a = some (eO a (Y.cls c) none) → Off Y ι n a → Rep Y ι n H (.ex c []) (.ref a)
  | ex1 {c : Nat} {xs : List MV} {ys : List V} {a d : Addr} {fs : List (Str × V)} : H a = some (eO a (Y.cls c) (some d)) → Off Y ι n a → H d = some (.xd fs) → (∀ (j : Nat) (y : V), ys[j]? = some y → ∃ f : Str, (Y.fld c)[j]? = some f ∧ fs.lookup f = some y) → RepAll Y ι n H xs ys → Rep Y ι n H (.ex c xs) (.ref a)
  | ref {i : Nat} : i < n → Rep Y ι n H (.ref i) (.ref (ι i))
inductive RepAll (Y : Lay) (ι : Nat → Addr) (n : Nat) (H : Hp) : List MV → List V → Prop
  | nil : RepAll Y ι n H [] []
  | cons {x : MV} {xs : List MV} {v : V} {vs : List V} : Rep Y ι n H x v → RepAll Y ι n H xs vs → RepAll Y ι n H (x :: xs) (v :: vs)
end

/-- a cell at its address -/
def RepC (Y : Lay) (ι : Nat → Addr) (n : Nat) (H : Hp) (a : Addr) : Cell → Prop
  | .lst xs => ∃ vs, H a = some (.lst vs) ∧ RepAll Y ι n H xs vs
  | .dct ks xs => ∃ es, H a = some (dO Y.w a es) ∧ DGood a ks es ∧ RepAll Y ι n H ks (es.map (·.2.1)) ∧ RepAll Y ι n H xs (es.map (·.2.2))
  | .st xs => ∃ ys es, H a = some (sO Y.w a es) ∧ ys.Perm xs ∧ SGood ys es ∧ RepAll Y ι n H ys (es.map (·.2))
  | .ins c xs => ∃ dx ys, H a = some (.ins (Y.cls c) dx ((Y.fld c).zip ys)) ∧ ys.length ≤ (Y.fld c).length ∧ RepAll Y ι n H xs ys

/-- the cells lie -/
structure HR (Y : Lay) (ι : Nat → Addr) (hm : MHp) (H : Hp) : Prop where
  inj : ∀ i j, i < hm.length → j < hm.length → ι i = ι j → i = j
  cell : ∀ i c, hm[i]? = some c → RepC Y ι hm.length H (ι i) c
  hid : ∀ a, Y.hid a → (∃ o, H a = some o) ∧ ∀ i, i < hm.length → ι i ≠ a

/-- an object of a kind that may change -/
def mutK : HO → Bool
  | .lst _ => true
  | .ins _ _ _ => true
  | .ext _ => true
  | _ => false
def Live (ι : Nat → Addr) (n : Nat) (H : Hp) : Prop := ∀ i, i < n → ∃ o, H (ι i) = some o ∧ mutK o = true

section
variable {Y : Lay} {ι ι' : Nat → Addr} {n n' : Nat} {H H' : Hp} {hm : MHp}
theorem RepC.there {a : Addr} {c : Cell} (h : RepC Y ι n H a c) : ∃ o, H a = some o ∧ mutK o = true := by
  cases c with
  | lst xs => obtain ⟨_, h, _⟩ := h; exact ⟨_, h, rfl⟩
  | dct ks xs => obtain ⟨_, h, _⟩ := h; exact ⟨_, h, rfl⟩
  | st xs => obtain ⟨_, _, h, _⟩ := h; exact ⟨_, h, rfl⟩
  | ins c xs => obtain ⟨_, _, h, _⟩ := h; exact ⟨_, h, rfl⟩
theorem HR.live (h : HR Y ι hm H) : Live ι hm.length H := fun i hi => RepC.there (h.cell i hm[i] (List.getElem?_eq_getElem hi))
end

/-- from one state to a later one: n cells then, n' now; what is no cell stays; new cells stand on new addresses -/
structure Ext (n n' : Nat) (ι ι' : Nat → Addr) (H H' : Hp) : Prop where
  le : n ≤ n'
  same : ∀ i, i < n → ι' i = ι i
  keep : ∀ a o, H a = some o → (∀ i, i < n → ι i ≠ a) → H' a = some o
  fresh : ∀ i, n ≤ i → i < n' → H (ι' i) = none
section
variable {Y : Lay} {ι ι' ι2 : Nat → Addr} {n n' n2 : Nat} {H H' H2 : Hp} {hm : MHp}
theorem Ext.refl : Ext n n ι ι H H := ⟨Nat.le_refl _, fun _ _ => rfl, fun _ _ h _ => h, fun i h1 h2 => absurd h1 (by omega)⟩
theorem Ext.trans (a : Ext n n' ι ι' H H') (b : Ext n' n2 ι' ι2 H' H2) (l : Live ι n H) (l' : Live ι' n' H') : Ext n n2 ι ι2 H H2 where
  le := Nat.le_trans a.le b.le
  same := fun i hi => (b.same i (Nat.lt_of_lt_of_le hi a.le)).trans (a.same i hi)
  keep := fun c o hc hn => b.keep c o (a.keep c o hc hn) fun i hi e => by
    by_cases h : i < n
    · exact hn i h ((a.same i h).symm.trans e)
    · have q := a.fresh i (by omega) hi
      rw [e, hc] at q
      cases q
  fresh := fun i h1 h2 => by
    by_cases h : i < n'
    · rw [b.same i h]
      exact a.fresh i h1 h
    · have q := b.fresh i (by omega) h2
      cases e : H (ι2 i) with
      | none => rfl
      | some o =>
        by_cases hj : ∃ j, j < n ∧ ι j = ι2 i
        · obtain ⟨j, hj, ej⟩ := hj
          obtain ⟨u, hu, _⟩ := l' j (Nat.lt_of_lt_of_le hj a.le)
          rw [a.same j hj, ej, q] at hu
          cases hu
        · have z := a.keep _ _ e fun j hjn ej => hj ⟨j, hjn, ej⟩
          rw [q] at z
          cases z
theorem Ext.off (e : Ext n n' ι ι' H H') {a : Addr} {o : HO} (h : H a = some o) (ho : Off Y ι n a) : Off Y ι' n' a := ⟨ho.1, fun i hi q => by
  by_cases hn : i < n
  · exact ho.2 i hn ((e.same i hn).symm.trans q)
  · have z := e.fresh i (by omega) hi
    rw [q, h] at z
    cases z⟩
theorem Ext.rd (e : Ext n n' ι ι' H H') {a : Addr} {u : HO} (h : Rd H a u) (ho : Off Y ι n a) : Rd H' a u ∧ Off Y ι' n' a := by
  rcases h with h | ⟨o, h⟩
  · exact ⟨.inl (e.keep _ _ h ho.2), e.off h ho⟩
  · exact ⟨.inr ⟨o, e.keep _ _ h ho.2⟩, e.off h ho⟩
theorem Ext.imm (e : Ext n n' ι ι' H H') (l : Live ι n H) {a : Addr} {o : HO} (h : H a = some o) (hm : mutK o = false) : H' a = some o :=
  e.keep _ _ h fun i hi q => by
    obtain ⟨u, hu, hk⟩ := l i hi
    rw [q, h] at hu
    cases hu
    rw [hm] at hk
    cases hk
theorem Off.rehid {q : Addr → Prop} {a : Addr} (o : Off Y ι n a) (hs : ∀ a, q a → Y.hid a ∨ H a = none) (h : (∃ v, H a = some (HO.lst v)) ∨ ∃ u, H a = some u) : Off (Y.re q) ι n a := by
  refine ⟨fun z => ?_, o.2⟩
  rcases hs a z with y | y
  · exact o.1 y
  · rcases h with ⟨_, h⟩ | ⟨_, h⟩ <;> (rw [y] at h; cases h)
theorem Off.updH {D a : Addr} {o u : HO} (k : Off Y ι n a) (hD : Y.hid D) (h : H a = some u) : upd H D o a = some u := by
  have ne : a ≠ D := fun z => k.1 (by rw [z]; exact hD)
  rw [upd_ne ne]
  exact h
theorem upd_imm {D a : Addr} {o u w : HO} (e : H D = some u) (hm : mutK u = true) (h : H a = some w) (hw : mutK w = false) : upd H D o a = some w := by
  have ne : a ≠ D := fun z => by
    rw [z, e] at h
    cases h
    rw [hm] at hw
    cases hw
  rw [upd_ne ne]
  exact h
mutual
theorem Rep.mono (e : Ext n n' ι ι' H H') (l : Live ι n H) : ∀ {v : MV} {x : V}, Rep Y ι n H v x → Rep Y ι' n' H' v x
  | _, _, .non => .non
  | _, _, .bl b => .bl b
  | _, _, .int i => .int i
  | _, _, .str x => .str x
  | _, _, .tup h r => .tup (e.imm l h rfl) (RepAll.mono e l r)
  | _, _, .fl h o r => .fl (e.keep _ _ h o.2) (e.off h o) (RepAll.mono e l r)
  | _, _, .sc h o r => .sc (e.rd h o).1 (e.rd h o).2 (RepAll.mono e l r)
  | _, _, .fd h o g r r2 => .fd (e.keep _ _ h o.2) (e.off h o) g (RepAll.mono e l r) (RepAll.mono e l r2)
  | _, _, .fs h o p g r => .fs (e.keep _ _ h o.2) (e.off h o) p g (RepAll.mono e l r)
  | _, _, .fi h o g r => .fi (e.keep _ _ h o.2) (e.off h o) g (RepAll.mono e l r)
  | _, _, .ex0 h o => .ex0 (e.keep _ _ h o.2) (e.off h o)
  | _, _, .ex1 h o hd g r => .ex1 (e.keep _ _ h o.2) (e.off h o) (e.imm l hd rfl) g (RepAll.mono e l r)
  | _, _, .ref (i := i) h => (e.same i h) ▸ .ref (Nat.lt_of_lt_of_le h e.le)
theorem RepAll.mono (e : Ext n n' ι ι' H H') (l : Live ι n H) : ∀ {v : List MV} {x : List V}, RepAll Y ι n H v x → RepAll Y ι' n' H' v x
  | _, _, .nil => .nil
  | _, _, .cons h t => .cons (Rep.mono e l h) (RepAll.mono e l t)
end
mutual
/-- more is hidden, that stands on free addresses -/
theorem Rep.rehid {q : Addr → Prop} (hs : ∀ a, q a → Y.hid a ∨ H a = none) : ∀ {v : MV} {x : V}, Rep Y ι n H v x → Rep (Y.re q) ι n H v x
  | _, _, .non => .non
  | _, _, .bl b => .bl b
  | _, _, .int i => .int i
  | _, _, .str x => .str x
  | _, _, .tup h r => .tup h (RepAll.rehid hs r)
  | _, _, .fl h o r => .fl h (o.rehid hs (.inl ⟨_, h⟩)) (RepAll.rehid hs r)
  | _, _, .sc h o r => .sc h (o.rehid hs (h.elim (fun z => .inl ⟨_, z⟩) fun ⟨_, z⟩ => .inr ⟨_, z⟩)) (RepAll.rehid hs r)
  | _, _, .fd h o g r r2 => .fd h (o.rehid hs (.inr ⟨_, h⟩)) g (RepAll.rehid hs r) (RepAll.rehid hs r2)
  | _, _, .fs h o p g r => .fs h (o.rehid hs (.inr ⟨_, h⟩)) p g (RepAll.rehid hs r)
  | _, _, .fi h o g r => .fi h (o.rehid hs (.inr ⟨_, h⟩)) g (RepAll.rehid hs r)
  | _, _, .ex0 h o => .ex0 h (o.rehid hs (.inr ⟨_, h⟩))
  | _, _, .ex1 h o hd g r => .ex1 h (o.rehid hs (.inr ⟨_, h⟩)) hd g (RepAll.rehid hs r)
  | _, _, .ref h => .ref h
theorem RepAll.rehid {q : Addr → Prop} (hs : ∀ a, q a → Y.hid a ∨ H a = none) : ∀ {v : List MV} {x : List V}, RepAll Y ι n H v x → RepAll (Y.re q) ι n H v x
  | _, _, .nil => .nil
  | _, _, .cons h t => .cons (Rep.rehid hs h) (RepAll.rehid hs t)
end
mutual
/-- less is hidden -/
theorem Rep.unhid {q : Addr → Prop} (hs : ∀ a, q a → Y.hid a) : ∀ {v : MV} {x : V}, Rep Y ι n H v x → Rep (Y.re q) ι n H v x
  | _, _, .non => .non
  | _, _, .bl b => .bl b
  | _, _, .int i => .int i
  | _, _, .str x => .str x
  | _, _, .tup h r => .tup h (RepAll.unhid hs r)
  | _, _, .fl h o r => .fl h ⟨fun z => o.1 (hs _ z), o.2⟩ (RepAll.unhid hs r)
  | _, _, .sc h o r => .sc h ⟨fun z => o.1 (hs _ z), o.2⟩ (RepAll.unhid hs r)
  | _, _, .fd h o g r r2 => .fd h ⟨fun z => o.1 (hs _ z), o.2⟩ g (RepAll.unhid hs r) (RepAll.unhid hs r2)
  | _, _, .fs h o p g r => .fs h ⟨fun z => o.1 (hs _ z), o.2⟩ p g (RepAll.unhid hs r)
  | _, _, .fi h o g r => .fi h ⟨fun z => o.1 (hs _ z), o.2⟩ g (RepAll.unhid hs r)
  | _, _, .ex0 h o => .ex0 h ⟨fun z => o.1 (hs _ z), o.2⟩
  | _, _, .ex1 h o hd g r => .ex1 h ⟨fun z => o.1 (hs _ z), o.2⟩ hd g (RepAll.unhid hs r)
  | _, _, .ref h => .ref h
theorem RepAll.unhid {q : Addr → Prop} (hs : ∀ a, q a → Y.hid a) : ∀ {v : List MV} {x : List V}, RepAll Y ι n H v x → RepAll (Y.re q) ι n H v x
  | _, _, .nil => .nil
  | _, _, .cons h t => .cons (Rep.unhid hs h) (RepAll.unhid hs t)
end
mutual
/-- a hidden object is changed -/
theorem Rep.updH {D : Addr} {o u : HO} (hD : Y.hid D) (e : H D = some u) (hm : mutK u = true) : ∀ {v : MV} {x : V}, Rep Y ι n H v x → Rep Y ι n (upd H D o) v x
  | _, _, .non => .non
  | _, _, .bl b => .bl b
  | _, _, .int i => .int i
  | _, _, .str x => .str x
  | _, _, .tup h r => .tup (upd_imm e hm h rfl) (RepAll.updH hD e hm r)
  | _, _, .fl h k r => .fl (k.updH hD h) k (RepAll.updH hD e hm r)
  | _, _, .sc h k r => .sc (h.elim (fun h => .inl (k.updH hD h)) fun ⟨_, h⟩ => .inr ⟨_, k.updH hD h⟩) k (RepAll.updH hD e hm r)
  | _, _, .fd h k g r r2 => .fd (k.updH hD h) k g (RepAll.updH hD e hm r) (RepAll.updH hD e hm r2)
  | _, _, .fs h k p g r => .fs (k.updH hD h) k p g (RepAll.updH hD e hm r)
  | _, _, .fi h k g r => .fi (k.updH hD h) k g (RepAll.updH hD e hm r)
  | _, _, .ex0 h k => .ex0 (k.updH hD h) k
  | _, _, .ex1 h k hd g r => .ex1 (k.updH hD h) k (upd_imm e hm hd rfl) g (RepAll.updH hD e hm r)
  | _, _, .ref h => .ref h
theorem RepAll.updH {D : Addr} {o u : HO} (hD : Y.hid D) (e : H D = some u) (hm : mutK u = true) : ∀ {v : List MV} {x : List V}, RepAll Y ι n H v x → RepAll Y ι n (upd H D o) v x
  | _, _, .nil => .nil
  | _, _, .cons h t => .cons (Rep.updH hD e hm h) (RepAll.updH hD e hm t)
end
theorem RepAll.length : ∀ {v : List MV} {x : List V}, RepAll Y ι n H v x → v.length = x.length
  | _, _, .nil => rfl
  | _, _, .cons _ t => by rw [List.length_cons, List.length_cons, RepAll.length t]
theorem RepAll.get : ∀ {v : List MV} {x : List V} {i : Nat} {a : MV}, RepAll Y ι n H v x → v[i]? = some a → ∃ b, x[i]? = some b ∧ Rep Y ι n H a b
  | _, _, _, _, .nil, h => by simp at h
  | _, _, 0, _, .cons h _, e => by
    simp only [List.getElem?_cons_zero, Option.some.injEq] at e
    exact ⟨_, rfl, e ▸ h⟩
  | _, _, i + 1, _, .cons _ t, e => by
    simp only [List.getElem?_cons_succ] at e ⊢
    exact RepAll.get t e
theorem RepAll.get' : ∀ {v : List MV} {x : List V} {i : Nat} {b : V}, RepAll Y ι n H v x → x[i]? = some b → ∃ a, v[i]? = some a ∧ Rep Y ι n H a b
  | _, _, _, _, .nil, h => by simp at h
  | _, _, 0, _, .cons h _, e => by
    simp only [List.getElem?_cons_zero, Option.some.injEq] at e
    exact ⟨_, rfl, e ▸ h⟩
  | _, _, i + 1, _, .cons _ t, e => by
    simp only [List.getElem?_cons_succ] at e ⊢
    exact RepAll.get' t e
theorem RepAll.append : ∀ {v u : List MV} {x y : List V}, RepAll Y ι n H v x → RepAll Y ι n H u y → RepAll Y ι n H (v ++ u) (x ++ y)
  | _, _, _, _, .nil, s => s
  | _, _, _, _, .cons h t, s => .cons h (RepAll.append t s)
theorem RepAll.take : ∀ {v : List MV} {x : List V} (k : Nat), RepAll Y ι n H v x → RepAll Y ι n H (v.take k) (x.take k)
  | _, _, 0, _ => .nil
  | _, _, _ + 1, .nil => .nil
  | _, _, k + 1, .cons h t => .cons h (RepAll.take k t)
theorem RepAll.drop : ∀ {v : List MV} {x : List V} (k : Nat), RepAll Y ι n H v x → RepAll Y ι n H (v.drop k) (x.drop k)
  | _, _, 0, h => h
  | _, _, _ + 1, .nil => .nil
  | _, _, k + 1, .cons _ t => RepAll.drop k t
theorem RepAll.set {a : MV} {b : V} (h : Rep Y ι n H a b) : ∀ {v : List MV} {x : List V} (k : Nat), RepAll Y ι n H v x → RepAll Y ι n H (v.set k a) (x.set k b)
  | _, _, _, .nil => .nil
  | _, _, 0, .cons _ t => .cons h t
  | _, _, k + 1, .cons g t => .cons g (RepAll.set h k t)
theorem RepAll.reverse : ∀ {v : List MV} {x : List V}, RepAll Y ι n H v x → RepAll Y ι n H v.reverse x.reverse
  | _, _, .nil => .nil
  | _, _, .cons h t => by
    rw [List.reverse_cons, List.reverse_cons]
    exact (RepAll.reverse t).append (.cons h .nil)
end

/-! ### the slots -/
def RS (Y : Lay) (ι : Nat → Addr) (n : Nat) (H : Hp) (sm : MSt) (s : L2.St) : Prop :=
  sm.length = s.length ∧ ∀ (i : Nat) (v : MV), sm[i]? = some (some v) → ∃ x : V, s[i]? = some (some x) ∧ Rep Y ι n H v x
section
variable {Y : Lay} {ι ι' : Nat → Addr} {n n' : Nat} {H H' : Hp} {sm : MSt} {s : L2.St}
theorem RS.mono (e : Ext n n' ι ι' H H') (l : Live ι n H) (r : RS Y ι n H sm s) : RS Y ι' n' H' sm s :=
  ⟨r.1, fun i v h => let ⟨x, hx, q⟩ := r.2 i v h; ⟨x, hx, q.mono e l⟩⟩
theorem RS.set (r : RS Y ι n H sm s) (i : Nat) {v : MV} {x : V} (h : Rep Y ι n H v x) : RS Y ι n H (sm.set i (some v)) (s.set i (some x)) := by
  refine ⟨by simp [r.1], fun j u e => ?_⟩
  by_cases hj : i = j
  · subst hj
    by_cases hl : i < sm.length
    · rw [List.getElem?_set_self hl] at e
      cases e
      exact ⟨x, by rw [List.getElem?_set_self (r.1 ▸ hl)], h⟩
    · rw [List.getElem?_eq_none (by simpa using hl)] at e
      cases e
  · rw [List.getElem?_set_ne hj] at e
    obtain ⟨y, hy, q⟩ := r.2 j u e
    exact ⟨y, by rw [List.getElem?_set_ne hj]; exact hy, q⟩
end

/-! ### readings of a mini computation -/
abbrev MQ := MV → MHp → Prop
/-- an expression: what is wanted of its value, of an exception -/
abbrev ME := MSt → MHp → MQ → MQ → Prop
abbrev MT := MSt → MHp → (Bool → MHp → Prop) → MQ → Prop
abbrev MA := MSt → MHp → (List MV → MHp → Prop) → MQ → Prop
structure MD where
  nx : MSt → MHp → Prop
  rt : MQ
  bk : MSt → MHp → Prop := fun _ _ => False
  ct : MSt → MHp → Prop := fun _ _ => False
  ex : MV → MSt → MHp → Prop
abbrev MS := MSt → MHp → MD → Prop

/-- an exception on its way: its class, its dict, the heap behind it -/
def RepX (Y : Lay) (ι : Nat → Addr) (n : Nat) (H : Hp) (e : MV) (cls : Value) (d : Option Addr) : Prop :=
  ∃ c xs, e = .ex c xs ∧ cls = .ref (Y.cls c) ∧ ((xs = [] ∧ d = none) ∨ ∃ (dd : Addr) (fs : List (Str × V)) (ys : List V), d = some dd ∧ H dd = some (.xd fs) ∧ (∀ (j : Nat) (y : V), ys[j]? = some y → ∃ f : Str, (Y.fld c)[j]? = some f ∧ fs.lookup f = some y) ∧ RepAll Y ι n H xs ys)
section
variable (Y : Lay)
/-- the wish of a value, of an exception carries over to the abstract heap -/
def TrQ (ι : Nat → Addr) (n : Nat) (H : Hp) (Qm : MQ) (Q : VK) : Prop :=
  ∀ v h' ι' H' x, HR Y ι' h' H' → Ext n h'.length ι ι' H H' → Rep Y ι' h'.length H' v x → Qm v h' → Q x H'
def TrB (ι : Nat → Addr) (n : Nat) (H : Hp) (Qm : Bool → MHp → Prop) (Q : Bool → Hp → Prop) : Prop :=
  ∀ b h' ι' H', HR Y ι' h' H' → Ext n h'.length ι ι' H H' → Qm b h' → Q b H'
def TrA (ι : Nat → Addr) (n : Nat) (H : Hp) (Qm : List MV → MHp → Prop) (Q : List V → Hp → Prop) : Prop :=
  ∀ vs h' ι' H' xs, HR Y ι' h' H' → Ext n h'.length ι ι' H H' → RepAll Y ι' h'.length H' vs xs → Qm vs h' → Q xs H'
def TrX (ι : Nat → Addr) (n : Nat) (H : Hp) (s : L2.St) (Em : MQ) (W : WX) : Prop :=
  ∀ e h' ι' H' cls d, HR Y ι' h' H' → Ext n h'.length ι ι' H H' → RepX Y ι' h'.length H' e cls d → Em e h' → W cls d s H'
def TrN (ι : Nat → Addr) (n : Nat) (H : Hp) (Qm : MSt → MHp → Prop) (Q : L2.St → Hp → Prop) : Prop :=
  ∀ sm' h' ι' H' s', HR Y ι' h' H' → Ext n h'.length ι ι' H H' → RS Y ι' h'.length H' sm' s' → Qm sm' h' → Q s' H'
def TrY (ι : Nat → Addr) (n : Nat) (H : Hp) (Em : MV → MSt → MHp → Prop) (W : WX) : Prop :=
  ∀ e sm' h' ι' H' s' cls d, HR Y ι' h' H' → Ext n h'.length ι ι' H H' → RS Y ι' h'.length H' sm' s' → RepX Y ι' h'.length H' e cls d → Em e sm' h' → W cls d s' H'
structure TrD (W : WX) (ι : Nat → Addr) (n : Nat) (H : Hp) (Dm : MD) (D : Ends) : Prop where
  nx : TrN Y ι n H Dm.nx D.nx
  rt : TrQ Y ι n H Dm.rt D.rt
  bk : TrN Y ι n H Dm.bk D.bk
  ct : TrN Y ι n H Dm.ct D.ct
  ex : TrY Y ι n H Dm.ex W
def tM (W : WX) (m : ME) : TE := fun s H Q => ∃ ι sm hm Qm Em, HR Y ι hm H ∧ RS Y ι hm.length H sm s ∧ m sm hm Qm Em ∧ TrQ Y ι hm.length H Qm Q ∧ TrX Y ι hm.length H s Em W
def tMT (W : WX) (m : MT) : TT := fun s H Q => ∃ ι sm hm Qm Em, HR Y ι hm H ∧ RS Y ι hm.length H sm s ∧ m sm hm Qm Em ∧ TrB Y ι hm.length H Qm Q ∧ TrX Y ι hm.length H s Em W
def tMA (W : WX) (m : MA) : TA := fun s H Q => ∃ ι sm hm Qm Em, HR Y ι hm H ∧ RS Y ι hm.length H sm s ∧ m sm hm Qm Em ∧ TrA Y ι hm.length H Qm Q ∧ TrX Y ι hm.length H s Em W
def tMS (W : WX) (m : MS) : TS := fun D s H => ∃ ι sm hm Dm, HR Y ι hm H ∧ RS Y ι hm.length H sm s ∧ m sm hm Dm ∧ TrD Y W ι hm.length H Dm D
end
/-- the Python text e does what m says -/
abbrev SE (Y : Lay) (W : WX) (X : Cx) (m : ME) (e : Expr) : Prop := PE X e (tM Y W m)
abbrev ST (Y : Lay) (W : WX) (X : Cx) (m : MT) (e : Expr) : Prop := PT X e (tMT Y W m)
abbrev SA (Y : Lay) (W : WX) (X : Cx) (m : MA) (es : List Expr) : Prop := PA X es (tMA Y W m)
abbrev SS (Y : Lay) (W : WX) (X : Cx) (m : MS) (st : Stmt) : Prop := PS X st (tMS Y W m)
abbrev SSs (Y : Lay) (W : WX) (X : Cx) (m : MS) (sts : List Stmt) : Prop := PSs X sts (tMS Y W m)

section
variable {Y : Lay} {W : WX} {X : Cx} {ι ι1 : Nat → Addr} {n n1 : Nat} {H H1 : Hp} {s : L2.St}
theorem TrQ.mono {Qm : MQ} {Q : VK} (t : TrQ Y ι n H Qm Q) (e : Ext n n1 ι ι1 H H1) (l : Live ι n H) (l1 : Live ι1 n1 H1) : TrQ Y ι1 n1 H1 Qm Q :=
  fun v h' ι' H' x hr ex r q => t v h' ι' H' x hr (e.trans ex l l1) r q
theorem TrB.mono {Qm : Bool → MHp → Prop} {Q : Bool → Hp → Prop} (t : TrB Y ι n H Qm Q) (e : Ext n n1 ι ι1 H H1) (l : Live ι n H) (l1 : Live ι1 n1 H1) : TrB Y ι1 n1 H1 Qm Q :=
  fun v h' ι' H' hr ex q => t v h' ι' H' hr (e.trans ex l l1) q
theorem TrA.mono {Qm : List MV → MHp → Prop} {Q : List V → Hp → Prop} (t : TrA Y ι n H Qm Q) (e : Ext n n1 ι ι1 H H1) (l : Live ι n H) (l1 : Live ι1 n1 H1) : TrA Y ι1 n1 H1 Qm Q :=
  fun v h' ι' H' x hr ex r q => t v h' ι' H' x hr (e.trans ex l l1) r q
theorem TrX.mono {Em : MQ} (t : TrX Y ι n H s Em W) (e : Ext n n1 ι ι1 H H1) (l : Live ι n H) (l1 : Live ι1 n1 H1) : TrX Y ι1 n1 H1 s Em W :=
  fun v h' ι' H' c d hr ex r q => t v h' ι' H' c d hr (e.trans ex l l1) r q
theorem TrN.mono {Qm : MSt → MHp → Prop} {Q : L2.St → Hp → Prop} (t : TrN Y ι n H Qm Q) (e : Ext n n1 ι ι1 H H1) (l : Live ι n H) (l1 : Live ι1 n1 H1) : TrN Y ι1 n1 H1 Qm Q :=
  fun v h' ι' H' x hr ex r q => t v h' ι' H' x hr (e.trans ex l l1) r q
theorem TrY.mono {Em : MV → MSt → MHp → Prop} (t : TrY Y ι n H Em W) (e : Ext n n1 ι ι1 H H1) (l : Live ι n H) (l1 : Live ι1 n1 H1) : TrY Y ι1 n1 H1 Em W :=
  fun v sm h' ι' H' s' c d hr ex rs r q => t v sm h' ι' H' s' c d hr (e.trans ex l l1) rs r q
theorem TrD.mono {Dm : MD} {D : Ends} (t : TrD Y W ι n H Dm D) (e : Ext n n1 ι ι1 H H1) (l : Live ι n H) (l1 : Live ι1 n1 H1) : TrD Y W ι1 n1 H1 Dm D :=
  ⟨t.nx.mono e l l1, t.rt.mono e l l1, t.bk.mono e l l1, t.ct.mono e l l1, t.ex.mono e l l1⟩
/-- a weaker reading -/
theorem peI {e : Expr} {t t' : TE} (h : PE X e t) (i : ∀ s H Q, t' s H Q → t s H Q) : PE X e t' := ⟨fun pins s σ H Q I q => h.run pins s σ H Q I (i _ _ _ q)⟩
theorem ptI {e : Expr} {t t' : TT} (h : PT X e t) (i : ∀ s H Q, t' s H Q → t s H Q) : PT X e t' := ⟨fun pins s σ H Q I q => h.run pins s σ H Q I (i _ _ _ q)⟩
theorem pwI {e : Expr} {t t' : TT} (h : PW X e t) (i : ∀ s H Q, t' s H Q → t s H Q) : PW X e t' := ⟨fun wh pins s σ H Q I q => h.run wh pins s σ H Q I (i _ _ _ q)⟩
theorem paI {e : List Expr} {t t' : TA} (h : PA X e t) (i : ∀ s H Q, t' s H Q → t s H Q) : PA X e t' := ⟨fun p pins s σ H Q I q => h.run p pins s σ H Q I (i _ _ _ q)⟩
theorem psI {e : Stmt} {t t' : TS} (h : PS X e t) (i : ∀ s H Q, t' s H Q → t s H Q) : PS X e t' := ⟨fun pins s σ H Q I q => h.run pins s σ H Q I (i _ _ _ q)⟩
theorem pssI {e : List Stmt} {t t' : TS} (h : PSs X e t) (i : ∀ s H Q, t' s H Q → t s H Q) : PSs X e t' := ⟨fun pins s σ H Q I q => h.run pins s σ H Q I (i _ _ _ q)⟩
end
end Mini
/-! Mini, part 2: expressions. -/
namespace Mini
open PySem PySem.Spec PyProof.Rows L2

/-! ### one, two, many values -/
section
variable (Y : Lay)
def R1M (op : MV → MHp → MQ → Prop) : V → Hp → VK → Prop := fun x H Q => ∃ ι hm v Qm, HR Y ι hm H ∧ Rep Y ι hm.length H v x ∧ op v hm Qm ∧ TrQ Y ι hm.length H Qm Q
def R2M (op : MV → MV → MHp → MQ → Prop) : R2 := fun x y H Q => ∃ ι hm v u Qm, HR Y ι hm H ∧ Rep Y ι hm.length H v x ∧ Rep Y ι hm.length H u y ∧ op v u hm Qm ∧ TrQ Y ι hm.length H Qm Q
def RNM (op : List MV → MHp → MQ → Prop) : List V → Hp → VK → Prop := fun xs H Q => ∃ ι hm vs Qm, HR Y ι hm H ∧ RepAll Y ι hm.length H vs xs ∧ op vs hm Qm ∧ TrQ Y ι hm.length H Qm Q
def RmM (op : MV → List MV → MHp → MQ → Prop) : V → List V → Hp → VK → Prop := fun x xs H Q => ∃ ι hm v vs Qm, HR Y ι hm H ∧ Rep Y ι hm.length H v x ∧ RepAll Y ι hm.length H vs xs ∧ op v vs hm Qm ∧ TrQ Y ι hm.length H Qm Q
end
/-- the value itself is wanted, nothing made -/
theorem TrQ.here {Y : Lay} {ι : Nat → Addr} {hm : MHp} {H : Hp} {Qm : MQ} {Q : VK} {v : MV} {x : V} (t : TrQ Y ι hm.length H Qm Q) (hr : HR Y ι hm H) (r : Rep Y ι hm.length H v x) (q : Qm v hm) : Q x H :=
  t v hm ι H x hr .refl r q

/-! ### a new object -/
section
variable {Y : Lay} {ι : Nat → Addr} {n : Nat} {hm : MHp} {H : Hp} {p : Addr} {o : HO}
/-- a new tree at p -/
theorem Ext.new (hp : H p = none) : Ext n n ι ι H (upd H p o) :=
  ⟨Nat.le_refl _, fun _ _ => rfl, fun a u e _ => by rw [upd_ne (ne_of_none e hp)]; exact e, fun i h1 h2 => absurd h1 (by omega)⟩
theorem repC_mono {ι' : Nat → Addr} {n' : Nat} {H' : Hp} {a : Addr} {c : Cell} (e : Ext n n' ι ι' H H') (l : Live ι n H) (hs : ∀ u, H a = some u → mutK u = true → H' a = some u) (r : RepC Y ι n H a c) : RepC Y ι' n' H' a c := by
  cases c with
  | lst xs => obtain ⟨vs, h, r⟩ := r; exact ⟨vs, hs _ h rfl, r.mono e l⟩
  | dct ks xs => obtain ⟨es, h, g, r, r2⟩ := r; exact ⟨es, hs _ h rfl, g, r.mono e l, r2.mono e l⟩
  | st xs => obtain ⟨ys, es, h, pm, g, r⟩ := r; exact ⟨ys, es, hs _ h rfl, pm, g, r.mono e l⟩
  | ins c xs => obtain ⟨dx, ys, h, g, r⟩ := r; exact ⟨dx, ys, hs _ h rfl, g, r.mono e l⟩
theorem HR.new (hr : HR Y ι hm H) (hp : H p = none) : HR Y ι hm (upd H p o) where
  inj := hr.inj
  cell := fun i c e => repC_mono (Ext.new hp) hr.live (fun u hu _ => by rw [upd_ne (ne_of_none hu hp)]; exact hu) (hr.cell i c e)
  hid := fun a ha => by
    obtain ⟨⟨u, hu⟩, h2⟩ := hr.hid a ha
    exact ⟨⟨u, by rw [upd_ne (ne_of_none hu hp)]; exact hu⟩, h2⟩
theorem HR.off (hr : HR Y ι hm H) (hp : H p = none) : Off Y ι hm.length p := by
  refine ⟨fun z => ?_, fun i hi => ?_⟩
  · obtain ⟨u, hu⟩ := (hr.hid p z).1
    rw [hp] at hu
    cases hu
  · obtain ⟨u, hu, _⟩ := hr.live i hi
    exact ne_of_none hu hp
/-- a new cell at p -/
def snocι (ι : Nat → Addr) (n : Nat) (p : Addr) : Nat → Addr := fun i => if i = n then p else ι i
theorem snocι_lt {i : Nat} (h : i < n) : snocι ι n p i = ι i := if_neg (by omega)
theorem snocι_at : snocι ι n p n = p := if_pos rfl
theorem Ext.snoc (hp : H p = none) : Ext n (n + 1) ι (snocι ι n p) H (upd H p o) :=
  ⟨Nat.le_succ _, fun i h => snocι_lt h, fun a u e _ => by rw [upd_ne (ne_of_none e hp)]; exact e, fun i h1 h2 => by
    obtain rfl : i = n := by omega
    rw [snocι_at]
    exact hp⟩
theorem HR.snoc (hr : HR Y ι hm H) (hp : H p = none) {c : Cell} (rc : RepC Y (snocι ι hm.length p) (hm.length + 1) (upd H p o) p c) : HR Y (snocι ι hm.length p) (hm ++ [c]) (upd H p o) where
  inj := fun i j hi hj e => by
    rw [List.length_append, List.length_singleton] at hi hj
    by_cases h1 : i < hm.length
    · by_cases h2 : j < hm.length
      · rw [snocι_lt h1, snocι_lt h2] at e
        exact hr.inj i j h1 h2 e
      · obtain rfl : j = hm.length := by omega
        rw [snocι_lt h1, snocι_at] at e
        exact absurd e ((hr.off hp).2 i h1)
    · obtain rfl : i = hm.length := by omega
      by_cases h2 : j < hm.length
      · rw [snocι_lt h2, snocι_at] at e
        exact absurd e.symm ((hr.off hp).2 j h2)
      · omega
  cell := fun i d e => by
    rw [List.length_append, List.length_singleton]
    by_cases h1 : i < hm.length
    · rw [List.getElem?_append_left h1] at e
      rw [snocι_lt h1]
      exact repC_mono (Ext.snoc hp) hr.live (fun u hu _ => by rw [upd_ne (ne_of_none hu hp)]; exact hu) (hr.cell i d e)
    · have h2 : i = hm.length := by
        have := (List.getElem?_eq_some_iff.mp e).1
        rw [List.length_append, List.length_singleton] at this
        omega
      subst h2
      rw [List.getElem?_append_right (Nat.le_refl _), Nat.sub_self] at e
      cases e
      rw [snocι_at]
      exact rc
  hid := fun a ha => by
    obtain ⟨⟨u, hu⟩, h2⟩ := hr.hid a ha
    refine ⟨⟨u, by rw [upd_ne (ne_of_none hu hp)]; exact hu⟩, fun i hi e => ?_⟩
    rw [List.length_append, List.length_singleton] at hi
    by_cases h1 : i < hm.length
    · rw [snocι_lt h1] at e
      exact h2 i h1 e
    · obtain rfl : i = hm.length := by omega
      rw [snocι_at] at e
      subst e
      exact (hr.off hp).1 ha
/-- a frozen list, made -/
theorem TrQ.newL {Qm : MQ} {Q : VK} {xs : List MV} {vs : List V} (t : TrQ Y ι hm.length H Qm Q) (hr : HR Y ι hm H) (r : RepAll Y ι hm.length H xs vs) (q : Qm (.fl xs) hm) (hp : H p = none) : Q (.ref p) (upd H p (.lst vs)) :=
  t (.fl xs) hm ι _ _ (hr.new hp) (Ext.new hp) (.fl upd_same (hr.off hp) (r.mono (Ext.new hp) hr.live)) q
/-- a list as a cell, made -/
theorem TrQ.newC {Qm : MQ} {Q : VK} {xs : List MV} {vs : List V} (t : TrQ Y ι hm.length H Qm Q) (hr : HR Y ι hm H) (r : RepAll Y ι hm.length H xs vs) (q : Qm (.ref hm.length) (hm ++ [.lst xs])) (hp : H p = none) : Q (.ref p) (upd H p (.lst vs)) := by
  have e : Ext hm.length (hm ++ [Cell.lst xs]).length ι (snocι ι hm.length p) H (upd H p (.lst vs)) := by
    rw [List.length_append]
    exact Ext.snoc hp
  refine t (.ref hm.length) (hm ++ [.lst xs]) (snocι ι hm.length p) _ _ (hr.snoc (c := .lst xs) hp ⟨vs, upd_same, r.mono (Ext.snoc hp) hr.live⟩) e ?_ q
  have z : V.ref p = V.ref (snocι ι hm.length p hm.length) := by rw [snocι_at]
  rw [z]
  exact .ref (by rw [List.length_append]; exact Nat.lt_succ_self _)
/-- a tuple, made -/
theorem TrQ.newT {Qm : MQ} {Q : VK} {xs : List MV} {vs : List V} (t : TrQ Y ι hm.length H Qm Q) (hr : HR Y ι hm H) (r : RepAll Y ι hm.length H xs vs) (q : Qm (.tup xs) hm) (hp : H p = none) : Q (.ref p) (upd H p (.tup vs)) :=
  t (.tup xs) hm ι _ _ (hr.new hp) (Ext.new hp) (.tup upd_same (r.mono (Ext.new hp) hr.live)) q
end

/-! ### lists and tuples as they are read -/
def lstOf (hm : MHp) : MV → Option (List MV)
  | .fl xs => some xs
  | .sc xs => some xs
  | .ref n => match hm[n]? with
    | some (.lst xs) => some xs
    | _ => none
  | _ => none
def tupOf : MV → Option (List MV)
  | .tup xs => some xs
  | _ => none
def seqOf (hm : MHp) (v : MV) : Option (List MV) := match v with
  | .tup xs => some xs
  | v => lstOf hm v
section
variable {Y : Lay} {ι : Nat → Addr} {hm : MHp} {H : Hp} {v : MV} {x : V} {xs : List MV}
theorem lstOf_rep (K : PySem.W.Frag) (hr : HR Y ι hm H) (r : Rep Y ι hm.length H v x) (h : lstOf hm v = some xs) : ∃ a vs, x = .ref a ∧ SqL K H a vs ∧ RepAll Y ι hm.length H xs vs := by
  cases r with
  | fl e o r => cases h; exact ⟨_, _, rfl, .inl (.inl e), r⟩
  | sc e o r => cases h; exact ⟨_, _, rfl, .inl e, r⟩
  | @ref i hi =>
    unfold lstOf at h
    cases e : hm[i]? with
    | none => simp [e] at h
    | some c =>
      simp only [e] at h
      cases c with
      | lst ys =>
        cases h
        obtain ⟨vs, hv, r⟩ := hr.cell i _ e
        exact ⟨_, vs, rfl, SqL.of hv, r⟩
      | _ => cases h
  | _ => cases h
theorem tupOf_rep (K : PySem.W.Frag) (r : Rep Y ι hm.length H v x) (h : tupOf v = some xs) : ∃ a vs, x = .ref a ∧ SqT K H a vs ∧ RepAll Y ι hm.length H xs vs := by
  cases r with
  | tup e r => cases h; exact ⟨_, _, rfl, SqT.of e, r⟩
  | _ => cases h
theorem seqOf_rep (K : PySem.W.Frag) (hr : HR Y ι hm H) (r : Rep Y ι hm.length H v x) (h : seqOf hm v = some xs) : ∃ a vs, x = .ref a ∧ (SqL K H a vs ∨ SqT K H a vs) ∧ RepAll Y ι hm.length H xs vs := by
  unfold seqOf at h
  split at h
  · obtain ⟨a, vs, e, s, q⟩ := tupOf_rep K r (xs := xs) h
    exact ⟨a, vs, e, .inr s, q⟩
  · obtain ⟨a, vs, e, s, q⟩ := lstOf_rep K hr r h
    exact ⟨a, vs, e, .inl s, q⟩
end

/-! ### names, constants -/
def mVar (i : Nat) : ME := fun s h Q _ => ∃ v, s[i]? = some (some v) ∧ Q v h
def mC (v : MV) : ME := fun _ h Q _ => Q v h
def mInt (i : Int) : ME := mC (.int i)
def mBl (b : Bool) : ME := mC (.bl b)
def mNon : ME := mC .non
def mStr (x : Str) : ME := mC (.str x)
def mNever : ME := fun _ _ _ _ => False
section
variable {Y : Lay} {W : WX} {X : Cx}
theorem sn_var {i : Nat} {e : Expr} (h : PE X e (tVar i)) : SE Y W X (mVar i) e := peI h fun s H Q ⟨ι, sm, hm, Qm, Em, hr, rs, ⟨v, e, q⟩, tq, _⟩ => by
  obtain ⟨x, hx, r⟩ := rs.2 i v e
  exact ⟨x, hx, tq.here hr r q⟩
theorem sv (i : Nat) {x : Str} {pos : Pos} (hN : X.N[i]? = some x := by rfl) (hv : Vis X.env.scope x := by first | exact Or.inl rfl | exact Or.inr (Or.inl rfl) | exact Or.inr (Or.inr rfl)) (hd : (x == ("__debug__" : Str)) = false := by decide)
    (hcd : (x == ("__classdict__" : Str)) = false := by decide) : SE Y W X (mVar i) (.Name x pos) := sn_var (pe_var hN hv hd hcd)
theorem sn_c {v : MV} {x : V} {e : Expr} (h : PE X e (tC x)) (hr : ∀ ι n H, Rep Y ι n H v x) : SE Y W X (mC v) e := peI h fun s H Q ⟨ι, sm, hm, Qm, Em, r, rs, q, tq, _⟩ => tq.here r (hr _ _ _) q
theorem sn_int {i j pos} : SE Y W X (mInt i) (.Constant (.int i) j pos) := sn_c pe_int fun _ _ _ => .int i
theorem sn_bl {b j pos} : SE Y W X (mBl b) (.Constant (.bool b) j pos) := sn_c pe_bl fun _ _ _ => .bl b
theorem sn_non {j pos} : SE Y W X mNon (.Constant .none j pos) := sn_c pe_non fun _ _ _ => .non
theorem sn_str {x j pos} : SE Y W X (mStr x) (.Constant (.str x) j pos) := sn_c pe_str fun _ _ _ => .str x
/-- a module's int -/
theorem sn_gint {x : Str} {i : Int} {pos : Pos} (hg : Gl X x) (hm : ∃ t, X.mg x = some (.int i t)) (hd : (x == ("__debug__" : Str)) = false := by decide) : SE Y W X (mInt i) (.Name x pos) := by
  obtain ⟨t, ht⟩ := hm
  exact sn_c (pe_glob (v := .int i) hg ht ⟨t, rfl⟩ hd) fun _ _ _ => .int i
theorem sn_never {e : Expr} : SE Y W X mNever e := ⟨fun _ _ _ _ _ _ ⟨_, _, _, _, _, _, _, q, _⟩ => q.elim⟩
end

/-! ### operators -/
def mOp2 (op : MV → MV → MHp → MQ → Prop) (a b : ME) : ME := fun s h Q E => a s h (fun v h1 => b s h1 (fun u h2 => op v u h2 Q) E) E
def mOp1 (op : MV → MHp → MQ → Prop) (a : ME) : ME := fun s h Q E => a s h (fun v h1 => op v h1 Q) E
section
variable {Y : Lay} {W : WX} {X : Cx}
theorem tM_op1 {op : MV → MHp → MQ → Prop} {a : ME} {s : L2.St} {H : Hp} {Q : VK} (h : tM Y W (mOp1 op a) s H Q) : tM Y W a s H (fun x H1 => R1M Y op x H1 Q) := by
  obtain ⟨ι, sm, hm, Qm, Em, hr, rs, q, tq, tx⟩ := h
  refine ⟨ι, sm, hm, _, Em, hr, rs, q, fun v h1 ι1 H1 x hr1 e1 r1 q1 => ?_, tx⟩
  exact ⟨ι1, h1, v, Qm, hr1, r1, q1, tq.mono e1 hr.live hr1.live⟩
theorem tM_op2 {op : MV → MV → MHp → MQ → Prop} {a b : ME} {s : L2.St} {H : Hp} {Q : VK} (h : tM Y W (mOp2 op a b) s H Q) : tM Y W a s H (fun x H1 => tM Y W b s H1 fun y H2 => R2M Y op x y H2 Q) := by
  obtain ⟨ι, sm, hm, Qm, Em, hr, rs, q, tq, tx⟩ := h
  refine ⟨ι, sm, hm, _, Em, hr, rs, q, fun v h1 ι1 H1 x hr1 e1 r1 q1 => ?_, tx⟩
  refine ⟨ι1, sm, h1, _, Em, hr1, rs.mono e1 hr.live, q1, fun u h2 ι2 H2 y hr2 e2 r2 q2 => ?_, tx.mono e1 hr.live hr1.live⟩
  exact ⟨ι2, h2, v, u, Qm, hr2, r1.mono e2 hr1.live, r2, q2, tq.mono (e1.trans e2 hr.live hr1.live) hr.live hr2.live⟩
theorem sn_bin {op : MV → MV → MHp → MQ → Prop} {o : Operator} {a b : ME} {ea eb : Expr} {pos : Pos} (ho : OpR X (binaryOp o) (R2M Y op)) (ha : SE Y W X a ea) (hb : SE Y W X b eb) : SE Y W X (mOp2 op a b) (.BinOp ea o eb pos) :=
  peI (pe_op ho ha hb) fun s H Q h => tM_op2 h
theorem sn_un {op : MV → MHp → MQ → Prop} {o : UnaryOp} {a : ME} {ea : Expr} {pos : Pos} (ho : UnR X (unaryOp o) (R1M Y op)) (ha : SE Y W X a ea) : SE Y W X (mOp1 op a) (.UnaryOp o ea pos) :=
  peI (pe_un ho ha) fun s H Q h => tM_op1 h
theorem sn_cmp {op : MV → MV → MHp → MQ → Prop} {o : CmpOp} {a b : ME} {ea eb : Expr} {pos : Pos} (ho : OpR X (compareOp o) (R2M Y op)) (ha : SE Y W X a ea) (hb : SE Y W X b eb) (hm : behindInMarks o eb = false) : SE Y W X (mOp2 op a b) (.Compare ea [o] [eb] pos) :=
  peI (pe_cmpR ho ha hb hm) fun s H Q h => tM_op2 h
theorem opOr {f : Value → Value → Sem Value} {op op' : MV → MV → MHp → MQ → Prop} (h : OpR X f (R2M Y op)) (h' : OpR X f (R2M Y op')) : OpR X f (R2M Y fun v u m Q => op v u m Q ∨ op' v u m Q) := by
  intro pins s σ H x y v' u' Q I rx ry ⟨ι, hm, v, u, Qm, hr, rv, ru, q, tq⟩
  rcases q with q | q
  · exact h pins s σ H x y v' u' Q I rx ry ⟨ι, hm, v, u, Qm, hr, rv, ru, q, tq⟩
  · exact h' pins s σ H x y v' u' Q I rx ry ⟨ι, hm, v, u, Qm, hr, rv, ru, q, tq⟩
theorem orI {f : Value → Value → Sem Value} {r r' : R2} (h : OpR X f r) (i : ∀ x y H Q, r' x y H Q → r x y H Q) : OpR X f r' :=
  fun pins s σ H x y v u Q I rx ry q => h pins s σ H x y v u Q I rx ry (i _ _ _ _ q)

/-- + -/
def addM (v u : MV) (h : MHp) (Q : MQ) : Prop := match v with
  | .int i => (match u with
    | .int j => Q (.int (i + j)) h
    | _ => False)
  | .str x => (match u with
    | .str y => x.length + y.length ≤ sizeLine ∧ Q (.str (x ++ y)) h
    | _ => False)
  | .tup xs => (match u with
    | .tup ys => xs.length + ys.length ≤ sizeLine ∧ Q (.tup (xs ++ ys)) h
    | _ => False)
  | _ => False
theorem op_addM : OpR X (binaryOp .Add) (R2M Y addM) := by
  intro pins s σ H x y v' u' Q I rx ry ⟨ι, hm, v, u, Qm, hr, rv, ru, q, tq⟩
  cases rv with
  | int i =>
    cases ru with
    | int j => exact op_add pins s σ H _ _ v' u' Q I rx ry ⟨i, j, rfl, rfl, tq.here hr (.int _) q⟩
    | _ => exact q.elim
  | str a =>
    cases ru with
    | str b => exact op_add_str pins s σ H _ _ v' u' Q I rx ry ⟨a, b, rfl, rfl, q.1, tq.here hr (.str _) q.2⟩
    | _ => exact q.elim
  | @tup xs vs a ha ra =>
    cases ru with
    | @tup ys ws b hb rb =>
      obtain ⟨hl, q⟩ := q
      rw [ra.length, rb.length] at hl
      refine op_catA pins s σ H _ _ v' u' Q I rx ry ⟨a, b, vs, ws, rfl, rfl, SqT.of ha, SqT.of hb, hl, fun e => ?_, fun _ e => ?_, fun _ _ p hp => tq.newT hr (ra.append rb) q hp⟩
      · subst e
        have e2 : xs = [] := List.eq_nil_of_length_eq_zero ra.length
        subst e2
        exact tq.here hr (.tup hb rb) q
      · subst e
        have e2 : ys = [] := List.eq_nil_of_length_eq_zero rb.length
        subst e2
        rw [List.append_nil] at q
        exact tq.here hr (.tup ha ra) q
    | _ => exact q.elim
  | _ => exact q.elim
/-- xs + ys, lists: a frozen one, a cell -/
def catF (v u : MV) (h : MHp) (Q : MQ) : Prop := ∃ xs ys, lstM h v = some xs ∧ lstM h u = some ys ∧ xs.length + ys.length ≤ sizeLine ∧ Q (.fl (xs ++ ys)) h
  where lstM (h : MHp) : MV → Option (List MV)
    | .sc _ => none
    | v => lstOf h v
def catC (v u : MV) (h : MHp) (Q : MQ) : Prop := ∃ xs ys, catF.lstM h v = some xs ∧ catF.lstM h u = some ys ∧ xs.length + ys.length ≤ sizeLine ∧ Q (.ref h.length) (h ++ [.lst (xs ++ ys)])
theorem lstM_rep {ι : Nat → Addr} {hm : MHp} {H : Hp} {v : MV} {x : V} {xs : List MV} (hr : HR Y ι hm H) (r : Rep Y ι hm.length H v x) (h : catF.lstM hm v = some xs) : ∃ a vs, x = .ref a ∧ H a = some (.lst vs) ∧ RepAll Y ι hm.length H xs vs := by
  cases r with
  | fl e o r => cases h; exact ⟨_, _, rfl, e, r⟩
  | @ref i hi =>
    have h : lstOf hm (.ref i) = some xs := h
    unfold lstOf at h
    cases e : hm[i]? with
    | none => simp [e] at h
    | some c =>
      simp only [e] at h
      cases c with
      | lst ys =>
        cases h
        obtain ⟨vs, hv, r⟩ := hr.cell i _ e
        exact ⟨_, vs, rfl, hv, r⟩
      | _ => cases h
  | _ => cases h
theorem op_catFM : OpR X (binaryOp .Add) (R2M Y catF) := by
  intro pins s σ H x y v' u' Q I rx ry ⟨ι, hm, v, u, Qm, hr, rv, ru, ⟨xs, ys, e1, e2, hl, q⟩, tq⟩
  obtain ⟨a, vs, rfl, ha, ra⟩ := lstM_rep hr rv e1
  obtain ⟨b, ws, rfl, hb, rb⟩ := lstM_rep hr ru e2
  exact op_cat pins s σ H _ _ v' u' Q I rx ry ⟨a, b, vs, ws, rfl, rfl, ha, hb, by rw [← ra.length, ← rb.length]; exact hl, fun p hp => tq.newL hr (ra.append rb) q hp⟩
theorem op_catCM : OpR X (binaryOp .Add) (R2M Y catC) := by
  intro pins s σ H x y v' u' Q I rx ry ⟨ι, hm, v, u, Qm, hr, rv, ru, ⟨xs, ys, e1, e2, hl, q⟩, tq⟩
  obtain ⟨a, vs, rfl, ha, ra⟩ := lstM_rep hr rv e1
  obtain ⟨b, ws, rfl, hb, rb⟩ := lstM_rep hr ru e2
  exact op_cat pins s σ H _ _ v' u' Q I rx ry ⟨a, b, vs, ws, rfl, rfl, ha, hb, by rw [← ra.length, ← rb.length]; exact hl, fun p hp => tq.newC hr (ra.append rb) q hp⟩
/-- ints -/
def int2 (C : Int → Int → Prop) (f : Int → Int → MV) (v u : MV) (h : MHp) (Q : MQ) : Prop := match v with
  | .int i => (match u with
    | .int j => C i j ∧ Q (f i j) h
    | _ => False)
  | _ => False
theorem op_int2 {f : Value → Value → Sem Value} {C : Int → Int → Prop} {g : Int → Int → V} {gm : Int → Int → MV} (h : OpR X f (rI C g)) (e : ∀ ι n H i j, Rep Y ι n H (gm i j) (g i j)) : OpR X f (R2M Y (int2 C gm)) := by
  intro pins s σ H x y v' u' Q I rx ry ⟨ι, hm, v, u, Qm, hr, rv, ru, q, tq⟩
  cases rv with
  | int i =>
    cases ru with
    | int j => exact h pins s σ H _ _ v' u' Q I rx ry ⟨i, j, rfl, rfl, q.1, tq.here hr (e _ _ _ _ _) q.2⟩
    | _ => exact q.elim
  | _ => exact q.elim
theorem rI_of_rI0 {f : Value → Value → Sem Value} {g : Int → Int → V} (h : OpR X f (rI0 g)) : OpR X f (rI (fun _ _ => True) g) :=
  orI h fun x y H Q ⟨i, j, e1, e2, _, q⟩ => ⟨i, j, e1, e2, q⟩
abbrev subM := int2 (fun _ _ => True) fun i j => .int (i - j)
theorem op_subM : OpR X (binaryOp .Sub) (R2M Y subM) := op_int2 (rI_of_rI0 op_sub) fun _ _ _ _ _ => .int _
abbrev modM := int2 (fun _ j => j ≠ 0) fun i j => .int (i.fmod j)
theorem op_modM : OpR X (binaryOp .Mod) (R2M Y modM) := op_int2 op_modN fun _ _ _ _ _ => .int _
abbrev fdivM := int2 CDivN fun i j => .int (i.fdiv j)
theorem op_fdivM : OpR X (binaryOp .FloorDiv) (R2M Y fdivM) := op_int2 op_fdivN fun _ _ _ _ _ => .int _
abbrev powM := int2 CPow fun i j => .int (i ^ j.toNat)
theorem op_powM : OpR X (binaryOp .Pow) (R2M Y powM) := op_int2 op_pow fun _ _ _ _ _ => .int _
abbrev ltM := int2 (fun _ _ => True) fun i j => .bl (decide (i < j))
theorem op_ltM : OpR X (compareOp .Lt) (R2M Y ltM) := op_int2 (rI_of_rI0 op_lt) fun _ _ _ _ _ => .bl _
abbrev leM := int2 (fun _ _ => True) fun i j => .bl (decide (i ≤ j))
theorem op_leM : OpR X (compareOp .LtE) (R2M Y leM) := op_int2 (rI_of_rI0 op_le) fun _ _ _ _ _ => .bl _
abbrev gtM := int2 (fun _ _ => True) fun i j => .bl (decide (j < i))
theorem op_gtM : OpR X (compareOp .Gt) (R2M Y gtM) := op_int2 (rI_of_rI0 op_gt) fun _ _ _ _ _ => .bl _
abbrev geM := int2 (fun _ _ => True) fun i j => .bl (decide (j ≤ i))
theorem op_geM : OpR X (compareOp .GtE) (R2M Y geM) := op_int2 (rI_of_rI0 op_ge) fun _ _ _ _ _ => .bl _
/-- * : two ints; a tuple so many times -/
def mulM (v u : MV) (h : MHp) (Q : MQ) : Prop := match v with
  | .int i => (match u with
    | .int j => CMul i j ∧ Q (.int (i * j)) h
    | _ => False)
  | .tup xs => (match u with
    | .int k => xs ≠ [] ∧ 1 ≤ k ∧ k ≤ 1000 ∧ xs.length ≤ 1000 ∧ Q (.tup (List.replicate k.toNat xs).flatten) h
    | _ => False)
  | _ => False
def negM (v : MV) (h : MHp) (Q : MQ) : Prop := match v with
  | .int i => Q (.int (-i)) h
  | _ => False
theorem un_negM : UnR X (unaryOp .USub) (R1M Y negM) := by
  intro pins s σ H x v' Q I rx ⟨ι, hm, v, Qm, hr, rv, q, tq⟩
  cases rv with
  | int i => exact un_neg pins s σ H _ v' Q I rx ⟨i, rfl, tq.here hr (.int _) q⟩
  | _ => exact q.elim
def notM (v : MV) (h : MHp) (Q : MQ) : Prop := match v with
  | .bl b => Q (.bl (!b)) h
  | _ => False
/-- is None, is not None -/
def isNoneM (v : MV) : Bool := match v with
  | .non => true
  | _ => false
def isM (v u : MV) (h : MHp) (Q : MQ) : Prop := match u with
  | .non => Q (.bl (isNoneM v)) h
  | _ => False
def isNotM (v u : MV) (h : MHp) (Q : MQ) : Prop := match u with
  | .non => Q (.bl (!isNoneM v)) h
  | _ => False
theorem isNone_rep {ι : Nat → Addr} {n : Nat} {H : Hp} {v : MV} {x : V} (r : Rep Y ι n H v x) : decide (x = .non) = isNoneM v := by
  cases r <;> first | rfl | exact decide_eq_false (fun z => nomatch z)
theorem op_isM : OpR X (compareOp .Is) (R2M Y isM) := by
  intro pins s σ H x y v' u' Q I rx ry ⟨ι, hm, v, u, Qm, hr, rv, ru, q, tq⟩
  cases ru with
  | non => exact op_isN pins s σ H _ _ v' u' Q I rx ry ⟨rfl, by rw [isNone_rep rv]; exact tq.here hr (.bl _) q⟩
  | _ => exact q.elim
theorem op_isNotM : OpR X (compareOp .IsNot) (R2M Y isNotM) := by
  intro pins s σ H x y v' u' Q I rx ry ⟨ι, hm, v, u, Qm, hr, rv, ru, q, tq⟩
  cases ru with
  | non => exact op_notN pins s σ H _ _ v' u' Q I rx ry ⟨rfl, by rw [isNone_rep rv]; exact tq.here hr (.bl _) q⟩
  | _ => exact q.elim
end
end Mini
/-! Mini, part 3: trees as data: ==, in, repr. -/
namespace Mini
open PySem PySem.Spec PyProof.Rows L2

/-! ### trees as the library's data -/
mutual
def MV.dat : MV → PyData
  | .bl b => .bool b
  | .int i => .int i
  | .str x => .str x
  | .tup xs => .tuple (datAll xs)
  | .fl xs => .list (datAll xs)
  | .sc xs => .list (datAll xs)
  | _ => .none
def datAll : List MV → List PyData
  | [] => []
  | x :: xs => x.dat :: datAll xs
end
mutual
/-- data through and through -/
def MV.sok : MV → Bool
  | .non => true
  | .bl _ => true
  | .int _ => true
  | .str x => PyData.strOk x
  | .tup xs => sokAll xs
  | .fl xs => sokAll xs
  | .sc xs => sokAll xs
  | _ => false
def sokAll : List MV → Bool
  | [] => true
  | x :: xs => x.sok && sokAll xs
end
mutual
def MV.dep : MV → Nat
  | .tup xs => depAll xs + 1
  | .fl xs => depAll xs + 1
  | .sc xs => depAll xs + 1
  | _ => 0
def depAll : List MV → Nat
  | [] => 0
  | x :: xs => max x.dep (depAll xs)
end
mutual
/-- == of trees -/
def MV.eqv : MV → MV → Bool
  | .non, u => (match u with | .non => true | _ => false)
  | .bl a, u => (match u with | .bl b => a == b | .int j => (if a then 1 else 0) == j | _ => false)
  | .int i, u => (match u with | .bl b => i == (if b then 1 else 0) | .int j => i == j | _ => false)
  | .str x, u => (match u with | .str y => x == y | _ => false)
  | .tup xs, u => (match u with | .tup ys => eqvAll xs ys | _ => false)
  | .fl xs, u => (match u with | .fl ys => eqvAll xs ys | .sc ys => eqvAll xs ys | _ => false)
  | .sc xs, u => (match u with | .fl ys => eqvAll xs ys | .sc ys => eqvAll xs ys | _ => false)
  | _, _ => false
def eqvAll : List MV → List MV → Bool
  | [], ys => ys.isEmpty
  | x :: xs, ys => (match ys with | [] => false | y :: ys => x.eqv y && eqvAll xs ys)
end
mutual
theorem eqv_dat : ∀ (v u : MV), v.sok = true → u.sok = true → v.eqv u = PyData.eqv v.dat u.dat
  | .non, u, _, hu => by cases u <;> first | rfl | (simp [MV.sok] at hu) | (simp [MV.eqv, MV.dat, PyData.eqv])
  | .bl a, u, _, hu => by cases u <;> first | rfl | (simp [MV.sok] at hu) | (simp [MV.eqv, MV.dat, PyData.eqv])
  | .int i, u, _, hu => by cases u <;> first | rfl | (simp [MV.sok] at hu) | (simp [MV.eqv, MV.dat, PyData.eqv])
  | .str x, u, _, hu => by cases u <;> first | rfl | (simp [MV.sok] at hu) | (simp [MV.eqv, MV.dat, PyData.eqv])
  | .tup xs, u, hv, hu => by
    cases u with
    | tup ys =>
      simp only [MV.sok] at hv hu
      simp only [MV.eqv, MV.dat, PyData.eqv]
      exact eqvAll_dat xs ys hv hu
    | _ => first | rfl | (simp [MV.sok] at hu) | (simp [MV.eqv, MV.dat, PyData.eqv])
  | .fl xs, u, hv, hu => by
    cases u with
    | fl ys =>
      simp only [MV.sok] at hv hu
      simp only [MV.eqv, MV.dat, PyData.eqv]
      exact eqvAll_dat xs ys hv hu
    | sc ys =>
      simp only [MV.sok] at hv hu
      simp only [MV.eqv, MV.dat, PyData.eqv]
      exact eqvAll_dat xs ys hv hu
    | _ => first | rfl | (simp [MV.sok] at hu) | (simp [MV.eqv, MV.dat, PyData.eqv])
  | .sc xs, u, hv, hu => by
    cases u with
    | fl ys =>
      simp only [MV.sok] at hv hu
      simp only [MV.eqv, MV.dat, PyData.eqv]
      exact eqvAll_dat xs ys hv hu
    | sc ys =>
      simp only [MV.sok] at hv hu
      simp only [MV.eqv, MV.dat, PyData.eqv]
      exact eqvAll_dat xs ys hv hu
    | _ => first | rfl | (simp [MV.sok] at hu) | (simp [MV.eqv, MV.dat, PyData.eqv])
  | .fd _ _, _, hv, _ => by simp [MV.sok] at hv
  | .fs _, _, hv, _ => by simp [MV.sok] at hv
  | .fi _ _, _, hv, _ => by simp [MV.sok] at hv
  | .ex _ _, _, hv, _ => by simp [MV.sok] at hv
  | .ref _, _, hv, _ => by simp [MV.sok] at hv
theorem eqvAll_dat : ∀ (xs ys : List MV), sokAll xs = true → sokAll ys = true → eqvAll xs ys = PyData.eqvAll (datAll xs) (datAll ys)
  | [], [], _, _ => by simp [eqvAll, datAll, PyData.eqvAll]
  | [], _ :: _, _, _ => by simp [eqvAll, datAll, PyData.eqvAll]
  | _ :: _, [], _, _ => by simp [eqvAll, datAll, PyData.eqvAll]
  | x :: xs, y :: ys, hv, hu => by
    simp only [sokAll, Bool.and_eq_true] at hv hu
    simp only [eqvAll, datAll, PyData.eqvAll]
    rw [eqv_dat x y hv.1 hu.1, eqvAll_dat xs ys hv.2 hu.2]
end
mutual
theorem lay_dat : ∀ v : MV, v.sok = true → v.dat.canLay0 = true ∧ v.dat.depth = v.dep
  | .non, _ => ⟨by simp [MV.dat, PyData.canLay0], by simp [MV.dat, PyData.depth, MV.dep]⟩
  | .bl _, _ => ⟨by simp [MV.dat, PyData.canLay0], by simp [MV.dat, PyData.depth, MV.dep]⟩
  | .int _, _ => ⟨by simp [MV.dat, PyData.canLay0], by simp [MV.dat, PyData.depth, MV.dep]⟩
  | .str x, h => ⟨by simpa [MV.dat, PyData.canLay0, MV.sok] using h, by simp [MV.dat, PyData.depth, MV.dep]⟩
  | .tup xs, h => by
    have q := layAll_dat xs (by simpa [MV.sok] using h)
    exact ⟨by simpa [MV.dat, PyData.canLay0] using q.1, by simp [MV.dat, PyData.depth, MV.dep, q.2]⟩
  | .fl xs, h => by
    have q := layAll_dat xs (by simpa [MV.sok] using h)
    exact ⟨by simpa [MV.dat, PyData.canLay0] using q.1, by simp [MV.dat, PyData.depth, MV.dep, q.2]⟩
  | .sc xs, h => by
    have q := layAll_dat xs (by simpa [MV.sok] using h)
    exact ⟨by simpa [MV.dat, PyData.canLay0] using q.1, by simp [MV.dat, PyData.depth, MV.dep, q.2]⟩
  | .fd _ _, h => by simp [MV.sok] at h
  | .fs _, h => by simp [MV.sok] at h
  | .fi _ _, h => by simp [MV.sok] at h
  | .ex _ _, h => by simp [MV.sok] at h
  | .ref _, h => by simp [MV.sok] at h
theorem layAll_dat : ∀ xs : List MV, sokAll xs = true → PyData.canLayAll0 (datAll xs) = true ∧ PyData.depthAll (datAll xs) = depAll xs
  | [], _ => ⟨by simp [datAll, PyData.canLayAll0], by simp [datAll, PyData.depthAll, depAll]⟩
  | x :: xs, h => by
    simp only [sokAll, Bool.and_eq_true] at h
    have q1 := lay_dat x h.1
    have q2 := layAll_dat xs h.2
    exact ⟨by simp [datAll, PyData.canLayAll0, q1.1, q2.1], by simp [datAll, PyData.depthAll, depAll, q1.2, q2.2]⟩
end
def MV.ok (v : MV) : Bool := v.sok && decide (v.dep ≤ 60)
theorem shaped_ok {v : MV} (h : v.ok = true) : SeqAt.shaped v.dat = true := by
  unfold MV.ok at h
  simp only [Bool.and_eq_true, decide_eq_true_eq] at h
  have q := lay_dat v h.1
  unfold SeqAt.shaped
  rw [q.1, q.2]
  simp
  omega
mutual
theorem dp_of (K : PySem.W.Frag) {Y : Lay} {ι : Nat → Addr} {n : Nat} {H : Hp} : ∀ {v : MV} {x : V}, Rep Y ι n H v x → v.sok = true → Dp K H x v.dat
  | _, _, .non, _ => .non
  | _, _, .bl b, _ => .bl b
  | _, _, .int i, _ => .int i
  | _, _, .str x, _ => .str x
  | _, _, .tup e r, h => by
    simp only [MV.sok] at h
    simp only [MV.dat]
    exact .tup (SqT.of e) (dpAll_of K r h)
  | _, _, .fl e _ r, h => by
    simp only [MV.sok] at h
    simp only [MV.dat]
    exact .lst (SqL.of e) (dpAll_of K r h)
  | _, _, .sc e _ r, h => by
    simp only [MV.sok] at h
    simp only [MV.dat]
    exact .lst (.inl e) (dpAll_of K r h)
  | _, _, .fd .., h => by simp [MV.sok] at h
  | _, _, .fs .., h => by simp [MV.sok] at h
  | _, _, .fi .., h => by simp [MV.sok] at h
  | _, _, .ex0 .., h => by simp [MV.sok] at h
  | _, _, .ex1 .., h => by simp [MV.sok] at h
  | _, _, .ref .., h => by simp [MV.sok] at h
theorem dpAll_of (K : PySem.W.Frag) {Y : Lay} {ι : Nat → Addr} {n : Nat} {H : Hp} : ∀ {v : List MV} {x : List V}, RepAll Y ι n H v x → sokAll v = true → DpAll K H x (datAll v)
  | _, _, .nil, _ => by
    simp only [datAll]
    exact .nil
  | _, _, .cons r t, h => by
    simp only [sokAll, Bool.and_eq_true] at h
    simp only [datAll]
    exact .cons (dp_of K r h.1) (dpAll_of K t h.2)
end
/-- a cell's list in the place of its number -/
def der (h : MHp) (v : MV) : MV := match v with
  | .ref n => (match h[n]? with
    | some (.lst xs) => .fl xs
    | _ => v)
  | v => v
theorem der_dp (K : PySem.W.Frag) {Y : Lay} {ι : Nat → Addr} {hm : MHp} {H : Hp} {v : MV} {x : V} (hr : HR Y ι hm H) (r : Rep Y ι hm.length H v x) (h : (der hm v).sok = true) : Dp K H x (der hm v).dat := by
  cases r with
  | @ref i hi =>
    unfold der at h ⊢
    cases e : hm[i]? with
    | none => simp [e, MV.sok] at h
    | some c =>
      simp only [e] at h ⊢
      cases c with
      | lst ys =>
        obtain ⟨vs, hv, r⟩ := hr.cell i _ e
        simp only [MV.sok] at h
        simp only [MV.dat]
        exact .lst (SqL.of hv) (dpAll_of K r h)
      | _ => simp [MV.sok] at h
  | non => exact .non
  | bl b => exact .bl b
  | int i => exact .int i
  | str x => exact .str x
  | tup e r => exact dp_of K (.tup e r) h
  | fl e o r => exact dp_of K (.fl e o r) h
  | sc e o r => exact dp_of K (.sc e o r) h
  | _ => simp [der, MV.sok] at h

/-! ### == and != -/
def eqM (v u : MV) (h : MHp) (Q : MQ) : Prop := (∃ x y, v = .str x ∧ u = .str y ∧ Q (.bl (x == y)) h) ∨ ((der h v).ok = true ∧ (der h u).ok = true ∧ Q (.bl ((der h v).eqv (der h u))) h)
def neM (v u : MV) (h : MHp) (Q : MQ) : Prop := (∃ x y, v = .str x ∧ u = .str y ∧ Q (.bl (!(x == y))) h) ∨ ((der h v).ok = true ∧ (der h u).ok = true ∧ Q (.bl (!(der h v).eqv (der h u))) h)
theorem sok_ok {v : MV} (h : v.ok = true) : v.sok = true := by
  unfold MV.ok at h
  simp only [Bool.and_eq_true] at h
  exact h.1
section
variable {Y : Lay} {W : WX} {X : Cx}
theorem op_eqM (hu : X.A.units + 64 < cLine) : OpR X (compareOp .Eq) (R2M Y eqM) := by
  intro pins s σ H x y v' u' Q I rx ry ⟨ι, hm, v, u, Qm, hr, rv, ru, q, tq⟩
  rcases q with ⟨a, b, rfl, rfl, q⟩ | ⟨h1, h2, q⟩
  · cases rv
    cases ru
    exact op_eq pins s σ H _ _ v' u' Q I rx ry ⟨rfl, by rw [dec_str]; exact tq.here hr (.bl _) q⟩
  refine op_eqD hu pins s σ H x y v' u' Q I rx ry ⟨_, _, der_dp X.K hr rv (sok_ok h1), der_dp X.K hr ru (sok_ok h2), shaped_ok h1, shaped_ok h2, ?_⟩
  rw [← eqv_dat _ _ (sok_ok h1) (sok_ok h2)]
  exact tq.here hr (.bl _) q
theorem op_neM (hu : X.A.units + 64 < cLine) : OpR X (compareOp .NotEq) (R2M Y neM) := by
  intro pins s σ H x y v' u' Q I rx ry ⟨ι, hm, v, u, Qm, hr, rv, ru, q, tq⟩
  rcases q with ⟨a, b, rfl, rfl, q⟩ | ⟨h1, h2, q⟩
  · cases rv
    cases ru
    exact op_ne pins s σ H _ _ v' u' Q I rx ry ⟨rfl, by rw [dec_str]; exact tq.here hr (.bl _) q⟩
  refine op_neD hu pins s σ H x y v' u' Q I rx ry ⟨_, _, der_dp X.K hr rv (sok_ok h1), der_dp X.K hr ru (sok_ok h2), shaped_ok h1, shaped_ok h2, ?_⟩
  rw [← eqv_dat _ _ (sok_ok h1) (sok_ok h2)]
  exact tq.here hr (.bl _) q

/-! ### in, not in: a list or a tuple of data -/
theorem any_dat {v : MV} (hv : v.sok = true) : ∀ xs : List MV, sokAll xs = true → (datAll xs).any (fun z => PyData.eqv z v.dat) = xs.any fun z => z.eqv v
  | [], _ => by simp [datAll]
  | x :: xs, h => by
    simp only [sokAll, Bool.and_eq_true] at h
    simp only [datAll, List.any_cons]
    rw [any_dat hv xs h.2, eqv_dat x v h.1 hv]
def inSeqM (v u : MV) (h : MHp) (Q : MQ) : Prop := ∃ xs, seqOf h u = some xs ∧ sokAll xs = true ∧ depAll xs ≤ 59 ∧ (der h v).ok = true ∧ Q (.bl (xs.any fun z => z.eqv (der h v))) h
def notInSeqM (v u : MV) (h : MHp) (Q : MQ) : Prop := ∃ xs, seqOf h u = some xs ∧ sokAll xs = true ∧ depAll xs ≤ 59 ∧ (der h v).ok = true ∧ Q (.bl (!xs.any fun z => z.eqv (der h v))) h
/-- the container and the thing, as the library reads them -/
theorem inSeq_reads {ι : Nat → Addr} {hm : MHp} {H : Hp} {u : MV} {y : V} {uv : Value} {xs : List MV} {pins : List (Addr × Obj)} {s : Shared} {σ : L2.St} (I : Inv X pins σ H s) (hr : HR Y ι hm H) (r : Rep Y ι hm.length H u y) (ry : RelV y uv) (h : seqOf hm u = some xs) (hs : sokAll xs = true) :
    (∃ as, Reads s.heap uv (.list (datAll xs)) as) ∨ ∃ as, Reads s.heap uv (.tuple (datAll xs)) as := by
  obtain ⟨a, vs, rfl, e, ra⟩ := seqOf_rep X.K hr r h
  rcases e with e | e
  · exact .inl (Dp.reads I _ _ _ (.lst e (dpAll_of X.K ra hs)) ry)
  · exact .inr (Dp.reads I _ _ _ (.tup e (dpAll_of X.K ra hs)) ry)
theorem op_inSeqM (hu : X.A.units + 65 < cLine) : OpR X (compareOp .In) (R2M Y inSeqM) := by
  intro pins s σ H x y v' u' Q I rx ry ⟨ι, hm, v, u, Qm, hr, rv, ru, ⟨xs, e, hs, hd, hv, q⟩, tq⟩
  obtain ⟨bs, r1⟩ := Dp.reads I _ x v' (der_dp X.K hr rv (sok_ok hv)) rx
  have hq : EP X pins σ Q (.bool ((datAll xs).any fun z => PyData.eqv z (der hm v).dat)) s := by
    rw [any_dat (sok_ok hv) xs hs]
    exact ⟨.bl _, H, I, rfl, tq.here hr (.bl _) q⟩
  rcases inSeq_reads I hr ru ry e hs with ⟨as, r2⟩ | ⟨as, r2⟩
  · exact SeqAt.in_list_reads r2 r1 (layAll_dat xs hs).1 (lay_dat _ (sok_ok hv)).1 (room_in_shaped (shaped_ok hv) hu) hq
  · exact SeqAt.in_tuple_reads r2 r1 (layAll_dat xs hs).1 (lay_dat _ (sok_ok hv)).1 (room_in_shaped (shaped_ok hv) hu) hq
theorem op_notInSeqM (hu : X.A.units + 65 < cLine) : OpR X (compareOp .NotIn) (R2M Y notInSeqM) := by
  intro pins s σ H x y v' u' Q I rx ry ⟨ι, hm, v, u, Qm, hr, rv, ru, ⟨xs, e, hs, hd, hv, q⟩, tq⟩
  obtain ⟨bs, r1⟩ := Dp.reads I _ x v' (der_dp X.K hr rv (sok_ok hv)) rx
  have hq : EP X pins σ Q (.bool (!(datAll xs).any fun z => PyData.eqv z (der hm v).dat)) s := by
    rw [any_dat (sok_ok hv) xs hs]
    exact ⟨.bl _, H, I, rfl, tq.here hr (.bl _) q⟩
  rcases inSeq_reads I hr ru ry e hs with ⟨as, r2⟩ | ⟨as, r2⟩
  · exact SeqAt.notIn_list_reads r2 r1 (layAll_dat xs hs).1 (lay_dat _ (sok_ok hv)).1 (room_in_shaped (shaped_ok hv) hu) hq
  · exact SeqAt.notIn_tuple_reads r2 r1 (layAll_dat xs hs).1 (lay_dat _ (sok_ok hv)).1 (room_in_shaped (shaped_ok hv) hu) hq
end

/-! ### repr -/
mutual
/-- no longer than this is the text of a tree; its ints can be written -/
def MV.wt : MV → Nat
  | .int i => i.natAbs.log2 + 3
  | .str x => 10 * x.length + 2
  | .tup xs => wtAll xs + 3
  | .fl xs => wtAll xs + 3
  | .sc xs => wtAll xs + 3
  | _ => 5
def wtAll : List MV → Nat
  | [] => 0
  | x :: xs => x.wt + 2 + wtAll xs
end
mutual
def MV.iok : MV → Bool
  | .int i => decide (i.natAbs.log2 < 1920)
  | .str x => x.cps.toList.all fun c => decide (c < 16 ^ 8)
  | .tup xs => iokAll xs
  | .fl xs => iokAll xs
  | .sc xs => iokAll xs
  | _ => true
def iokAll : List MV → Bool
  | [] => true
  | x :: xs => x.iok && iokAll xs
end
/-- a tree that can be shown -/
def MV.rok (v : MV) : Bool := v.ok && v.iok && decide (v.wt ≤ 16000000)
def MV.shw (v : MV) : Str := v.dat.shown
def reprM (vs : List MV) (h : MHp) (Q : MQ) : Prop := match vs with
  | [v] => (der h v).rok = true ∧ Q (.str (der h v).shw) h
  | _ => False
end Mini
/-! Mini, part 4: tests, statements, targets, loops. -/
namespace Mini
open PySem PySem.Spec PyProof.Rows L2

/-! ### tests -/
def tV (a : ME) : MT := fun s h Q E => a s h (fun v h' => ∃ b, v = .bl b ∧ Q b h') E
def tNo (t : MT) : MT := fun s h Q E => t s h (fun b h' => Q (!b) h') E
def tAn (t u : MT) : MT := fun s h Q E => t s h (fun b h' => if b = true then u s h' Q E else Q false h') E
def tOr (t u : MT) : MT := fun s h Q E => t s h (fun b h' => if b = true then Q true h' else u s h' Q E) E
abbrev SW (Y : Lay) (W : WX) (X : Cx) (m : MT) (e : Expr) : Prop := PW X e (tMT Y W m)
def mAnd (a b : ME) : ME := fun s h Q E => a s h (fun v h1 => ∃ c, v = .bl c ∧ if c = true then b s h1 Q E else Q (.bl false) h1) E
def mOr (a b : ME) : ME := fun s h Q E => a s h (fun v h1 => ∃ c, v = .bl c ∧ if c = true then Q (.bl true) h1 else b s h1 Q E) E
def mNot (a : ME) : ME := mOp1 notM a
def mIfE (t : MT) (a b : ME) : ME := fun s h Q E => t s h (fun c h1 => if c = true then a s h1 Q E else b s h1 Q E) E
section
variable {Y : Lay} {W : WX} {X : Cx} {a b : ME} {t u : MT} {ea eb : Expr} {rest : List Expr} {pos : Pos}
theorem tMT_val {s : L2.St} {H : Hp} {Q : Bool → Hp → Prop} (h : tMT Y W (tV a) s H Q) : tM Y W a s H (fun x H1 => ∃ c, x = .bl c ∧ Q c H1) := by
  obtain ⟨ι, sm, hm, Qm, Em, hr, rs, q, tq, tx⟩ := h
  refine ⟨ι, sm, hm, _, Em, hr, rs, q, fun v h1 ι1 H1 x hr1 e1 r1 ⟨c, e, q1⟩ => ?_, tx⟩
  subst e
  cases r1
  exact ⟨c, rfl, tq _ _ _ _ hr1 e1 q1⟩
theorem st_val (ha : SE Y W X a ea) (he : ∀ whole, isTrue ea X.env whole = (do let v ← whole; standAt ea.pos; holding [v] (truthy v)) := by intro _; rfl) : ST Y W X (tV a) ea :=
  ptI (pt_val ha he) fun s H Q h => tMT_val h
theorem st_cmp {op : MV → MV → MHp → MQ → Prop} {o : CmpOp} (ho : OpR X (compareOp o) (R2M Y op)) (ha : SE Y W X a ea) (hb : SE Y W X b eb) (hm : behindInMarks o eb = false) : ST Y W X (tV (mOp2 op a b)) (.Compare ea [o] [eb] pos) :=
  ptI (pt_cmpR ho ha hb hm) fun s H Q h => tM_op2 (tMT_val h)
theorem st_not (ha : ST Y W X t ea) : ST Y W X (tNo t) (.UnaryOp .Not ea pos) :=
  ptI (pt_not ha) fun s H Q ⟨ι, sm, hm, Qm, Em, hr, rs, q, tq, tx⟩ => ⟨ι, sm, hm, _, Em, hr, rs, q, fun c h1 ι1 H1 hr1 e1 q1 => tq _ _ _ _ hr1 e1 q1, tx⟩
theorem sw_st (h : SW Y W X t ea) : ST Y W X t ea := h.pt
theorem sw_and1 (ha : ST Y W X t ea) : SW Y W X t (.BoolOp .And [ea] pos) := pw_and1 ha
theorem sw_or1 (ha : ST Y W X t ea) : SW Y W X t (.BoolOp .Or [ea] pos) := pw_or1 ha
theorem sw_and (ha : ST Y W X t ea) (hb : SW Y W X u (.BoolOp .And (eb :: rest) pos)) : SW Y W X (tAn t u) (.BoolOp .And (ea :: eb :: rest) pos) :=
  pwI (pw_and ha hb) fun s H Q ⟨ι, sm, hm, Qm, Em, hr, rs, q, tq, tx⟩ => by
    refine ⟨ι, sm, hm, _, Em, hr, rs, q, fun c h1 ι1 H1 hr1 e1 q1 => ?_, tx⟩
    cases c with
    | true => exact iteT ⟨ι1, sm, h1, Qm, Em, hr1, rs.mono e1 hr.live, q1, tq.mono e1 hr.live hr1.live, tx.mono e1 hr.live hr1.live⟩
    | false => exact iteF (tq _ _ _ _ hr1 e1 q1)
theorem sw_or (ha : ST Y W X t ea) (hb : SW Y W X u (.BoolOp .Or (eb :: rest) pos)) : SW Y W X (tOr t u) (.BoolOp .Or (ea :: eb :: rest) pos) :=
  pwI (pw_or ha hb) fun s H Q ⟨ι, sm, hm, Qm, Em, hr, rs, q, tq, tx⟩ => by
    refine ⟨ι, sm, hm, _, Em, hr, rs, q, fun c h1 ι1 H1 hr1 e1 q1 => ?_, tx⟩
    cases c with
    | true => exact iteT (tq _ _ _ _ hr1 e1 q1)
    | false => exact iteF ⟨ι1, sm, h1, Qm, Em, hr1, rs.mono e1 hr.live, q1, tq.mono e1 hr.live hr1.live, tx.mono e1 hr.live hr1.live⟩
/-- as values -/
theorem sn_one {op} (ha : SE Y W X a ea) : SE Y W X a (.BoolOp op [ea] pos) := pe_one ha
theorem sn_and (ha : SE Y W X a ea) (hb : SE Y W X b (.BoolOp .And (eb :: rest) pos)) : SE Y W X (mAnd a b) (.BoolOp .And (ea :: eb :: rest) pos) :=
  peI (pe_and ha hb) fun s H Q ⟨ι, sm, hm, Qm, Em, hr, rs, q, tq, tx⟩ => by
    refine ⟨ι, sm, hm, _, Em, hr, rs, q, fun v h1 ι1 H1 x hr1 e1 r1 ⟨c, e, q1⟩ => ?_, tx⟩
    subst e
    cases r1
    refine ⟨c, rfl, ?_⟩
    cases c with
    | true => exact iteT ⟨ι1, sm, h1, Qm, Em, hr1, rs.mono e1 hr.live, q1, tq.mono e1 hr.live hr1.live, tx.mono e1 hr.live hr1.live⟩
    | false => exact iteF ((tq.mono e1 hr.live hr1.live).here hr1 (.bl false) q1)
theorem sn_or (ha : SE Y W X a ea) (hb : SE Y W X b (.BoolOp .Or (eb :: rest) pos)) : SE Y W X (mOr a b) (.BoolOp .Or (ea :: eb :: rest) pos) :=
  peI (pe_or ha hb) fun s H Q ⟨ι, sm, hm, Qm, Em, hr, rs, q, tq, tx⟩ => by
    refine ⟨ι, sm, hm, _, Em, hr, rs, q, fun v h1 ι1 H1 x hr1 e1 r1 ⟨c, e, q1⟩ => ?_, tx⟩
    subst e
    cases r1
    refine ⟨c, rfl, ?_⟩
    cases c with
    | true => exact iteT ((tq.mono e1 hr.live hr1.live).here hr1 (.bl true) q1)
    | false => exact iteF ⟨ι1, sm, h1, Qm, Em, hr1, rs.mono e1 hr.live, q1, tq.mono e1 hr.live hr1.live, tx.mono e1 hr.live hr1.live⟩
theorem sn_not (ha : SE Y W X a ea) : SE Y W X (mNot a) (.UnaryOp .Not ea pos) :=
  peI (pe_not ha) fun s H Q h => by
    obtain ⟨ι, sm, hm, Qm, Em, hr, rs, q, tq, tx⟩ := h
    refine ⟨ι, sm, hm, _, Em, hr, rs, q, fun v h1 ι1 H1 x hr1 e1 r1 q1 => ?_, tx⟩
    cases r1 with
    | bl c => exact ⟨c, rfl, (tq.mono e1 hr.live hr1.live).here hr1 (.bl _) q1⟩
    | _ => exact q1.elim
theorem sn_ifE {ec : Expr} (hc : ST Y W X t ec) (ha : SE Y W X a ea) (hb : SE Y W X b eb) : SE Y W X (mIfE t a b) (.IfExp ec ea eb pos) :=
  peI (pe_ifExp hc ha hb) fun s H Q ⟨ι, sm, hm, Qm, Em, hr, rs, q, tq, tx⟩ => by
    refine ⟨ι, sm, hm, _, Em, hr, rs, q, fun c h1 ι1 H1 hr1 e1 q1 => ?_, tx⟩
    cases c with
    | true => exact iteT ⟨ι1, sm, h1, Qm, Em, hr1, rs.mono e1 hr.live, q1, tq.mono e1 hr.live hr1.live, tx.mono e1 hr.live hr1.live⟩
    | false => exact iteF ⟨ι1, sm, h1, Qm, Em, hr1, rs.mono e1 hr.live, q1, tq.mono e1 hr.live hr1.live, tx.mono e1 hr.live hr1.live⟩
end

/-! ### argument lists, displays -/
def aNil : MA := fun _ h Q _ => Q [] h
def aCons (a : ME) (r : MA) : MA := fun s h Q E => a s h (fun v h1 => r s h1 (fun vs h2 => Q (v :: vs) h2) E) E
def mTup (r : MA) : ME := fun s h Q E => r s h (fun vs h1 => vs.length ≤ sizeLine ∧ Q (.tup vs) h1) E
/-- a list display: frozen, a cell -/
def mLst (r : MA) : ME := fun s h Q E => r s h (fun vs h1 => vs.length ≤ sizeLine ∧ Q (.fl vs) h1) E
def mLstC (r : MA) : ME := fun s h Q E => r s h (fun vs h1 => vs.length ≤ sizeLine ∧ Q (.ref h1.length) (h1 ++ [.lst vs])) E
section
variable {Y : Lay} {W : WX} {X : Cx} {a : ME} {r : MA} {e : Expr} {es : List Expr} {pos : Pos}
theorem sa_nil : SA Y W X aNil [] := paI pa_nil fun s H Q ⟨ι, sm, hm, Qm, Em, hr, rs, q, tq, tx⟩ => tq _ _ _ _ _ hr .refl .nil q
theorem sa_cons (ha : SE Y W X a e) (hr : SA Y W X r es) (hs : starEach (e :: es) X.env = (false, eval e X.env) :: starEach es X.env := by rfl) : SA Y W X (aCons a r) (e :: es) :=
  paI (pa_cons ha hr hs) fun s H Q ⟨ι, sm, hm, Qm, Em, hr, rs, q, tq, tx⟩ => by
    refine ⟨ι, sm, hm, _, Em, hr, rs, q, fun v h1 ι1 H1 x hr1 e1 r1 q1 => ?_, tx⟩
    refine ⟨ι1, sm, h1, _, Em, hr1, rs.mono e1 hr.live, q1, fun vs h2 ι2 H2 xs hr2 e2 r2 q2 => ?_, tx.mono e1 hr.live hr1.live⟩
    exact tq _ _ _ _ _ hr2 (e1.trans e2 hr.live hr1.live) (.cons (r1.mono e2 hr1.live) r2) q2
theorem sn_tup {x1} (h : SA Y W X r es) : SE Y W X (mTup r) (.Tuple es x1 pos) :=
  peI (pe_tup h) fun s H Q ⟨ι, sm, hm, Qm, Em, hr, rs, q, tq, tx⟩ => by
    refine ⟨ι, sm, hm, _, Em, hr, rs, q, fun vs h1 ι1 H1 xs hr1 e1 r1 q1 => ⟨by rw [← r1.length]; exact q1.1, fun p hp => ?_⟩, tx⟩
    exact (tq.mono e1 hr.live hr1.live).newT hr1 r1 q1.2 hp
theorem sn_lst (h : SA Y W X r es) : SE Y W X (mLst r) (.List es pos) :=
  peI (pe_lst h) fun s H Q ⟨ι, sm, hm, Qm, Em, hr, rs, q, tq, tx⟩ => by
    refine ⟨ι, sm, hm, _, Em, hr, rs, q, fun vs h1 ι1 H1 xs hr1 e1 r1 q1 => ⟨by rw [← r1.length]; exact q1.1, fun p hp => ?_⟩, tx⟩
    exact (tq.mono e1 hr.live hr1.live).newL hr1 r1 q1.2 hp
theorem sn_lstC (h : SA Y W X r es) : SE Y W X (mLstC r) (.List es pos) :=
  peI (pe_lst h) fun s H Q ⟨ι, sm, hm, Qm, Em, hr, rs, q, tq, tx⟩ => by
    refine ⟨ι, sm, hm, _, Em, hr, rs, q, fun vs h1 ι1 H1 xs hr1 e1 r1 q1 => ⟨by rw [← r1.length]; exact q1.1, fun p hp => ?_⟩, tx⟩
    exact (tq.mono e1 hr.live hr1.live).newC hr1 r1 q1.2 hp
end

/-! ### statements -/
def mNext : MS := fun s h D => D.nx s h
def mSeq (a b : MS) : MS := fun s h D => a s h { D with nx := fun s' h' => b s' h' D }
def mDrop (a : ME) : MS := fun s h D => a s h (fun _ h' => D.nx s h') (fun e h' => D.ex e s h')
def mRet (a : ME) : MS := fun s h D => a s h D.rt (fun e h' => D.ex e s h')
def mRetN : MS := fun _ h D => D.rt .non h
def mIf (t : MT) (a b : MS) : MS := fun s h D => t s h (fun c h' => if c = true then a s h' D else b s h' D) (fun e h' => D.ex e s h')
def mBrk : MS := fun s h D => D.bk s h
def mCnt : MS := fun s h D => D.ct s h
def mNo : MS := fun _ _ _ => False
section
variable {Y : Lay} {W : WX} {X : Cx} {a : ME} {t : MT} {m m2 : MS} {e : Expr} {st : Stmt} {rest : List Stmt} {pos : Pos}
variable {ι : Nat → Addr} {n : Nat} {H : Hp} {Dm : MD} {D : Ends} {s : L2.St} {sm : MSt}
/-- from a statement's wish about exceptions to an expression's -/
theorem TrY.ex (t : TrY Y ι n H Dm.ex W) (l : Live ι n H) (rs : RS Y ι n H sm s) : TrX Y ι n H s (fun e h' => Dm.ex e sm h') W :=
  fun e h' ι' H' cls d hr ex rx q => t e sm h' ι' H' s cls d hr ex (rs.mono ex l) rx q
theorem TrN.here {Qm : MSt → MHp → Prop} {Q : L2.St → Hp → Prop} {hm : MHp} (t : TrN Y ι hm.length H Qm Q) (hr : HR Y ι hm H) (rs : RS Y ι hm.length H sm s) (q : Qm sm hm) : Q s H := t _ _ _ _ _ hr .refl rs q
theorem ss_nil : SSs Y W X mNext [] := pssI pss_nil fun D s H ⟨ι, sm, hm, Dm, hr, rs, q, td⟩ => td.nx.here hr rs q
theorem ss_pass : SS Y W X mNext (.Pass pos) := psI ps_pass fun D s H ⟨ι, sm, hm, Dm, hr, rs, q, td⟩ => td.nx.here hr rs q
theorem ss_brk : SS Y W X mBrk (.Break pos) := psI ps_break fun D s H ⟨ι, sm, hm, Dm, hr, rs, q, td⟩ => td.bk.here hr rs q
theorem ss_cnt : SS Y W X mCnt (.Continue pos) := psI ps_continue fun D s H ⟨ι, sm, hm, Dm, hr, rs, q, td⟩ => td.ct.here hr rs q
theorem ss_cons (h1 : SS Y W X m st) (h2 : SSs Y W X m2 rest) : SSs Y W X (mSeq m m2) (st :: rest) :=
  pssI (pss_cons h1 h2) fun D s H ⟨ι, sm, hm, Dm, hr, rs, q, td⟩ => by
    refine ⟨ι, sm, hm, _, hr, rs, q, ⟨fun sm' h' ι' H' s' hr' ex rs' q' => ?_, td.rt, td.bk, td.ct, td.ex⟩⟩
    exact ⟨ι', sm', h', Dm, hr', rs', q', td.mono ex hr.live hr'.live⟩
theorem ss_one (h1 : SS Y W X m st) : SSs Y W X m [st] := pss_one h1
theorem ss_expr (ha : SE Y W X a e) (hs : swapsWith e none pos.line X.env = pure false := by rfl) : SS Y W X (mDrop a) (.Expr e pos) :=
  psI (ps_expr ha hs) fun D s H ⟨ι, sm, hm, Dm, hr, rs, q, td⟩ => by
    refine ⟨ι, sm, hm, _, _, hr, rs, q, fun v h1 ι1 H1 x hr1 e1 r1 q1 => ?_, td.ex.ex hr.live rs⟩
    exact td.nx _ _ _ _ _ hr1 e1 (rs.mono e1 hr.live) q1
theorem ss_ret (ha : SE Y W X a e) : SS Y W X (mRet a) (.Return (some e) pos) :=
  psI (ps_ret ha) fun D s H ⟨ι, sm, hm, Dm, hr, rs, q, td⟩ => ⟨ι, sm, hm, _, _, hr, rs, q, td.rt, td.ex.ex hr.live rs⟩
theorem ss_retN : SS Y W X mRetN (.Return none pos) := psI ps_retN fun D s H ⟨ι, sm, hm, Dm, hr, rs, q, td⟩ => td.rt.here hr .non q
theorem ss_no : SS Y W X mNo st := ⟨fun _ _ _ _ _ _ ⟨_, _, _, _, _, _, q, _⟩ => q.elim⟩
theorem ss_if {c : Expr} {sa sb : List Stmt} (hc : ST Y W X t c) (ha : SSs Y W X m sa) (hb : SSs Y W X m2 sb) : SS Y W X (mIf t m m2) (.If c sa sb pos) :=
  psI (ps_if hc ha hb) fun D s H ⟨ι, sm, hm, Dm, hr, rs, q, td⟩ => by
    refine ⟨ι, sm, hm, _, _, hr, rs, q, fun c h1 ι1 H1 hr1 e1 q1 => ?_, td.ex.ex hr.live rs⟩
    cases c with
    | true => exact iteT ⟨ι1, sm, h1, Dm, hr1, rs.mono e1 hr.live, q1, td.mono e1 hr.live hr1.live⟩
    | false => exact iteF ⟨ι1, sm, h1, Dm, hr1, rs.mono e1 hr.live, q1, td.mono e1 hr.live hr1.live⟩
end

/-! ### targets -/
abbrev MG := MV → MSt → MHp → (MSt → MHp → Prop) → MQ → Prop
abbrev MGs := List MV → MSt → MHp → (MSt → MHp → Prop) → MQ → Prop
def tMG (Y : Lay) (W : WX) (g : MG) : TG := fun x s H Q => ∃ ι sm hm v Qm Em, HR Y ι hm H ∧ RS Y ι hm.length H sm s ∧ Rep Y ι hm.length H v x ∧ g v sm hm Qm Em ∧ TrN Y ι hm.length H Qm Q ∧ TrX Y ι hm.length H s Em W
def tMGs (Y : Lay) (W : WX) (g : MGs) : TGs := fun xs s H Q => ∃ ι sm hm vs Qm Em, HR Y ι hm H ∧ RS Y ι hm.length H sm s ∧ RepAll Y ι hm.length H vs xs ∧ g vs sm hm Qm Em ∧ TrN Y ι hm.length H Qm Q ∧ TrX Y ι hm.length H s Em W
abbrev SG (Y : Lay) (W : WX) (X : Cx) (g : MG) (tg : Expr) : Prop := PG X tg (tMG Y W g)
abbrev SGs (Y : Lay) (W : WX) (X : Cx) (g : MGs) (tgs : List Expr) : Prop := PGs X tgs (tMGs Y W g)
def gN (i : Nat) : MG := fun v s h Q _ => Q (s.set i (some v)) h
def gsNil : MGs := fun vs s h Q _ => vs = [] ∧ Q s h
/-- the further targets are names (or tuples of names): nothing is raised between -/
def gsCons (g : MG) (r : MGs) : MGs := fun vs s h Q E => ∃ v vs', vs = v :: vs' ∧ g v s h (fun s' h' => r vs' s' h' Q fun _ _ => False) E
def gT (r : MGs) (n : Nat) : MG := fun v s h Q E => ∃ vs, v = .tup vs ∧ vs.length = n ∧ r vs s h Q E
theorem psgI {X : Cx} {tg : Expr} {t t' : TG} (h : PG X tg t) (i : ∀ x s H Q, t' x s H Q → t x s H Q) : PG X tg t' := ⟨fun pins s σ H v u Q I r q => h.run pins s σ H v u Q I r (i _ _ _ _ q)⟩
theorem psgsI {X : Cx} {tg : List Expr} {t t' : TGs} (h : PGs X tg t) (i : ∀ x s H Q, t' x s H Q → t x s H Q) : PGs X tg t' := ⟨fun pins s σ H v u Q I r q => h.run pins s σ H v u Q I r (i _ _ _ _ q)⟩
section
variable {Y : Lay} {W : WX} {X : Cx} {g : MG} {gs : MGs} {e : Expr} {es : List Expr} {pos : Pos}
theorem sg_name {i : Nat} {x : Str} (hN : X.N.Nodup) (hi : X.N[i]? = some x := by rfl) (hx : Loc X.env.scope x := by first | exact Or.inl rfl | exact Or.inr rfl) (hf : X.fn x = true ∨ X.env.scope.names.lookup x = some .local := by first | exact .inl rfl | exact .inr rfl | assumption) : SG Y W X (gN i) (.Name x pos) :=
  psgI (pg_name hN hi hx hf) fun x s H Q ⟨ι, sm, hm, v, Qm, Em, hr, rs, r, q, tq, tx⟩ => tq _ _ _ _ _ hr .refl (rs.set i r) q
theorem sgs_nil : SGs Y W X gsNil [] := psgsI pgs_nil fun xs s H Q ⟨ι, sm, hm, vs, Qm, Em, hr, rs, r, ⟨e, q⟩, tq, tx⟩ => by
  subst e
  cases r
  exact ⟨rfl, tq _ _ _ _ _ hr .refl rs q⟩
theorem sgs_cons (h1 : SG Y W X g e) (h2 : SGs Y W X gs es) (hs : (assignEach (e :: es) X.env).map (·.2) = assign e X.env :: (assignEach es X.env).map (·.2) := by rfl) : SGs Y W X (gsCons g gs) (e :: es) := psgsI (pgs_cons h1 h2 hs) fun xs s H Q ⟨ι, sm, hm, vs, Qm, Em, hr, rs, r, ⟨v, vs', ev, q⟩, tq, tx⟩ => by
  subst ev
  cases r with
  | cons r1 r2 =>
    refine ⟨_, _, rfl, ι, sm, hm, v, _, Em, hr, rs, r1, q, fun sm' h' ι' H' s' hr' ex rs' q' => ?_, tx⟩
    exact ⟨ι', sm', h', vs', Qm, _, hr', rs', r2.mono ex hr.live, q', tq.mono ex hr.live hr'.live, fun _ _ _ _ _ _ _ _ _ z => z.elim⟩
end
theorem sg_tup {Y : Lay} {W : WX} {X : Cx} {gs : MGs} {es : List Expr} {k : Nat} {n : Nat} {pos : Pos} (hc : X.calm = true) (h : SGs Y W X gs es) (hn : (assignEach es X.env).length = n := by rfl) (hst : (assignEach es X.env).findIdx? (·.1) = none := by rfl) : SG Y W X (gT gs n) (.Tuple es k pos) :=
  psgI (pg_tup hc h hn hst) fun x s H Q ⟨ι, sm, hm, v, Qm, Em, hr, rs, r, ⟨vs, ev, hl, q⟩, tq, tx⟩ => by
    subst ev
    cases r with
    | tup e ra => exact ⟨_, _, rfl, SqT.of e, by rw [← ra.length]; exact hl, ι, sm, hm, vs, Qm, Em, hr, rs, ra, q, tq, tx⟩

/-! ### assignments -/
def mAsg (a : ME) (g : MG) : MS := fun s h D => a s h (fun v h1 => g v s h1 D.nx fun e h' => D.ex e s h') (fun e h' => D.ex e s h')
section
variable {Y : Lay} {W : WX} {X : Cx} {g : MG} {a : ME} {e tg : Expr} {pos : Pos}
theorem tM_asg {D : Ends} {s : L2.St} {H : Hp} (h : tMS Y W (mAsg a g) D s H) : tM Y W a s H (fun x H1 => tMG Y W g x s H1 D.nx) := by
  obtain ⟨ι, sm, hm, Dm, hr, rs, q, td⟩ := h
  refine ⟨ι, sm, hm, _, _, hr, rs, q, fun v h1 ι1 H1 x hr1 e1 r1 q1 => ?_, td.ex.ex hr.live rs⟩
  exact ⟨ι1, sm, h1, v, _, _, hr1, rs.mono e1 hr.live, r1, q1, td.nx.mono e1 hr.live hr1.live, (td.ex.ex hr.live rs).mono e1 hr.live hr1.live⟩
theorem ss_asg (ha : SE Y W X a e) (hg : SG Y W X g tg) (hs : swapsWithSole [tg] e pos.line X.env = pure false := by rfl) (hw : swappedStores [tg] e X.env = pure none := by rfl) (h1 : (assignEach [tg] X.env).map (·.2) = [assign tg X.env] := by rfl) : SS Y W X (mAsg a g) (.Assign [tg] e pos) :=
  psI (ps_asg ha hg hs hw h1) fun D s H h => tM_asg h
theorem ss_set {i : Nat} {x : Str} {pos' : Pos} (hN : X.N.Nodup) (ha : SE Y W X a e) (hi : X.N[i]? = some x := by rfl) (hx : Loc X.env.scope x := by first | exact Or.inl rfl | exact Or.inr rfl) (hs : swapsWith e (some (.Name x pos')) pos.line X.env = pure false := by rfl) (hf : X.fn x = true ∨ X.env.scope.names.lookup x = some .local := by first | exact .inl rfl | exact .inr rfl | assumption) :
    SS Y W X (mAsg a (gN i)) (.Assign [.Name x pos'] e pos) :=
  psI (ps_set hN hi hx ha hs hf) fun D s H h => by
    obtain ⟨ι, sm, hm, Dm, hr, rs, q, td⟩ := h
    refine ⟨ι, sm, hm, _, _, hr, rs, q, fun v h1 ι1 H1 x hr1 e1 r1 q1 => ?_, td.ex.ex hr.live rs⟩
    exact td.nx _ _ _ _ _ hr1 e1 ((rs.mono e1 hr.live).set i r1) q1
end

/-! ### while -/
def whileN (t : MT) (b : MS) : Nat → MS
  | 0 => fun _ _ _ => False
  | n + 1 => fun s h D => t s h (fun c h1 => if c = true then b s h1 { D with nx := fun s' h' => whileN t b n s' h' D, ct := fun s' h' => whileN t b n s' h' D, bk := D.nx } else D.nx s h1) (fun e h' => D.ex e s h')
def mWhile (t : MT) (b : MS) : MS := fun s h D => ∃ n, whileN t b n s h D
theorem ss_while {Y : Lay} {W : WX} {X : Cx} {t : MT} {b : MS} {c : Expr} {body : List Stmt} {pos : Pos} (hp : PassesOwn (model X.prog X.w) X.A X.env X.xe) (hc : ST Y W X t c) (hb : SSs Y W X b body) : SS Y W X (mWhile t b) (.While c body [] pos) :=
  psI (ps_while hp hc hb) fun D s H ⟨ι, sm, hm, Dm, hr, rs, ⟨n, q⟩, td⟩ => by
    refine ⟨fun k s' H' => ∃ ι sm hm Dm, HR Y ι hm H' ∧ RS Y ι hm.length H' sm s' ∧ whileN t b k sm hm Dm ∧ TrD Y W ι hm.length H' Dm D, ⟨n, ι, sm, hm, Dm, hr, rs, q, td⟩, ?_⟩
    rintro k s1 H1 ⟨ι1, sm1, hm1, Dm1, hr1, rs1, q1, td1⟩
    cases k with
    | zero => exact q1.elim
    | succ k =>
      refine ⟨ι1, sm1, hm1, _, _, hr1, rs1, q1, fun c h2 ι2 H2 hr2 e2 q2 => ?_, td1.ex.ex hr1.live rs1⟩
      cases c with
      | false => exact iteF (td1.nx _ _ _ _ _ hr2 e2 (rs1.mono e2 hr1.live) q2)
      | true =>
        refine iteT ⟨fun s' H' => ∃ ι sm hm Dm, HR Y ι hm H' ∧ RS Y ι hm.length H' sm s' ∧ whileN t b k sm hm Dm ∧ TrD Y W ι hm.length H' Dm D, fun s' H' z => ⟨k, Nat.lt_succ_self _, z⟩, ι2, sm1, h2, _, hr2, rs1.mono e2 hr1.live, q2, ?_⟩
        have td2 := td1.mono e2 hr1.live hr2.live
        exact ⟨fun sm' h' ι' H' s' hr' ex rs' q' => ⟨ι', sm', h', Dm1, hr', rs', q', td2.mono ex hr2.live hr'.live⟩, td2.rt, td2.nx, fun sm' h' ι' H' s' hr' ex rs' q' => ⟨ι', sm', h', Dm1, hr', rs', q', td2.mono ex hr2.live hr'.live⟩, td2.ex⟩

/-! ### what is walked: the items as they stood, and what must stay true of the heap while they are walked -/
abbrev MR := List MV → (MHp → Prop) → MHp → Prop
abbrev MI := MSt → MHp → MR → MQ → Prop
/-- the iterator J hands out the items xs while ok holds of the cells -/
def JRel (Y : Lay) (ι : Nat → Addr) (n : Nat) (H : Hp) (J : It) (xs : List MV) (ok : MHp → Prop) : Prop :=
  ∀ (q : Addr → Prop), (∀ a, q a → Y.hid a ∨ H a = none) → ∀ ι' hm' H', HR (Y.re q) ι' hm' H' → Ext n hm'.length ι ι' H H' → ok hm' → ∀ i : Nat, (xs[i]? = none → J.stop i H') ∧
    ∀ v, xs[i]? = some v → J.go i H' ∧ ∀ x H2, J.yld i H' x H2 → HR (Y.re q) ι' hm' H2 ∧ Ext hm'.length hm'.length ι' ι' H' H2 ∧ Rep (Y.re q) ι' hm'.length H2 v x
def tMI (Y : Lay) (W : WX) (m : MI) : TI := fun s H R => ∃ ι sm hm Rm Em, HR Y ι hm H ∧ RS Y ι hm.length H sm s ∧ m sm hm Rm Em ∧ TrX Y ι hm.length H s Em W ∧
  ∀ xs ok h1 ι1 H1 J, HR Y ι1 h1 H1 → Ext hm.length h1.length ι ι1 H H1 → JRel Y ι1 h1.length H1 J xs ok → Rm xs ok h1 → R J H1
abbrev SI (Y : Lay) (W : WX) (X : Cx) (m : MI) (tg iter : Expr) : Prop := PI X tg iter (tMI Y W m)
def forM (ok : MHp → Prop) (g : MG) (b : MS) : List MV → MS
  | [] => fun s h D => ok h ∧ D.nx s h
  | x :: xs => fun s h D => ok h ∧ g x s h (fun s1 h1 => b s1 h1 { D with nx := fun s2 h2 => forM ok g b xs s2 h2 D, ct := fun s2 h2 => forM ok g b xs s2 h2 D, bk := D.nx }) (fun e h' => D.ex e s h')
def mFor (m : MI) (g : MG) (b : MS) : MS := fun s h D => m s h (fun xs ok h1 => forM ok g b xs s h1 D) (fun e h' => D.ex e s h')
theorem ss_for {Y : Lay} {W : WX} {X : Cx} {m : MI} {g : MG} {b : MS} {tg iter : Expr} {body : List Stmt} {pos : Pos} (hp : PassesOwn (model X.prog X.w) X.A X.env X.xe) (hc : X.calm = true) (hi : SI Y W X m tg iter) (hg : SG Y W X g tg) (hb : SSs Y W X b body)
    (hs : ∀ x, foldedSetIterable iter X.env x = pure x := by intro _; rfl) : SS Y W X (mFor m g b) (.For tg iter body [] pos) :=
  psI (ps_for hp hc hi hg hb hs) fun D s H ⟨ι, sm, hm, Dm, hr, rs, q, td⟩ => by
    refine ⟨ι, sm, hm, _, _, hr, rs, q, td.ex.ex hr.live rs, fun xs ok h1 ι1 H1 J hr1 e1 jr q1 => ?_⟩
    refine ⟨fun i k s' H' => ∃ ι' sm' hm' Dm', HR Y ι' hm' H' ∧ RS Y ι' hm'.length H' sm' s' ∧ forM ok g b (xs.drop i) sm' hm' Dm' ∧ TrD Y W ι' hm'.length H' Dm' D ∧ Ext h1.length hm'.length ι1 ι' H1 H' ∧ k = xs.length - i ∧ i ≤ xs.length,
      ⟨_, ι1, sm, h1, Dm, hr1, rs.mono e1 hr.live, q1, td.mono e1 hr.live hr1.live, .refl, rfl, Nat.zero_le _⟩, ?_⟩
    rintro i k s2 H2 ⟨ι2, sm2, hm2, Dm2, hr2, rs2, q2, td2, e2, rfl, hi2⟩
    cases e : xs[i]? with
    | none =>
      have hd : xs.drop i = [] := List.drop_eq_nil_of_le (List.getElem?_eq_none_iff.mp e)
      rw [hd] at q2
      exact .inl ⟨((jr Y.hid (fun _ z => .inl z) ι2 hm2 H2 hr2 e2 q2.1) i).1 e, td2.nx.here hr2 rs2 q2.2⟩
    | some v =>
      obtain ⟨hlt, ev⟩ := List.getElem?_eq_some_iff.mp e
      have hd : xs.drop i = v :: xs.drop (i + 1) := by rw [List.drop_eq_getElem_cons hlt, ev]
      rw [hd] at q2
      obtain ⟨go, y⟩ := ((jr Y.hid (fun _ z => .inl z) ι2 hm2 H2 hr2 e2 q2.1) i).2 v e
      refine .inr ⟨go, fun s' H' => ∃ ι' sm' hm' Dm', HR Y ι' hm' H' ∧ RS Y ι' hm'.length H' sm' s' ∧ forM ok g b (xs.drop (i + 1)) sm' hm' Dm' ∧ TrD Y W ι' hm'.length H' Dm' D ∧ Ext h1.length hm'.length ι1 ι' H1 H', fun s' H' ⟨ι', sm', hm', Dm', a1, a2, a3, a4, a5⟩ => ⟨_, by omega, ι', sm', hm', Dm', a1, a2, a3, a4, a5, rfl, hlt⟩, fun x H3 yl => ?_⟩
      obtain ⟨hr3, e3, r3⟩ := y x H3 yl
      have td3 := td2.mono e3 hr2.live hr3.live
      refine ⟨ι2, sm2, hm2, v, _, _, hr3, rs2.mono e3 hr2.live, r3, q2.2, fun sm' h' ι' H' s' hr' ex rs' q' => ?_, td3.ex.ex hr3.live (rs2.mono e3 hr2.live)⟩
      have td4 := td3.mono ex hr3.live hr'.live
      have nxt : TrN Y ι' h'.length H' (fun s2 h2 => forM ok g b (xs.drop (i + 1)) s2 h2 Dm2) (fun s' H' => ∃ ι' sm' hm' Dm', HR Y ι' hm' H' ∧ RS Y ι' hm'.length H' sm' s' ∧ forM ok g b (xs.drop (i + 1)) sm' hm' Dm' ∧ TrD Y W ι' hm'.length H' Dm' D ∧ Ext h1.length hm'.length ι1 ι' H1 H') :=
        fun sm5 h5 ι5 H5 s5 hr5 ex5 rs5 q5 => ⟨ι5, sm5, h5, Dm2, hr5, rs5, q5, td4.mono ex5 hr'.live hr5.live, ((e2.trans e3 hr1.live hr2.live).trans ex hr1.live hr3.live).trans ex5 hr1.live hr'.live⟩
      exact ⟨ι', sm', h', _, hr', rs', q', ⟨nxt, td4.rt, td4.nx, nxt, td4.ex⟩⟩
end Mini
/-! Mini, part 5: what loops and comprehensions walk; comprehensions. -/
namespace Mini
open PySem PySem.Spec PyProof.Rows L2
theorem piI {X : Cx} {tg iter : Expr} {t t' : TI} (h : PI X tg iter t) (i : ∀ s H R, t' s H R → t s H R) : PI X tg iter t' := ⟨fun pins s σ H R I q => h.run pins s σ H R I (i _ _ _ q)⟩

/-! ### a list or a tuple -/
def iSeq (a : ME) : MI := fun s h R E => a s h (fun v h1 => match v with
  | .tup xs => R xs (fun _ => True) h1
  | v => ∃ xs, lstOf h1 v = some xs ∧ R xs (fun h' => lstOf h' v = some xs) h1) E
def iAny (K : PySem.W.Frag) (tl : TE) : TI := fun s H R => tl s H fun x H1 => ∃ a, x = .ref a ∧ (((∃ xs, SqL K H1 a xs) ∧ R (Itl K a) H1) ∨ ((∃ xs, SqT K H1 a xs) ∧ R (Itt K a) H1))
theorem pi_any {X : Cx} {tg l : Expr} {tl : TE} (hl : PE X l tl) : PI X tg l (iAny X.K tl) := by
  refine ⟨fun pins s σ H R I h => ?_⟩
  refine thn (hl.run pins s σ H _ I h) fun v s1 ⟨x, H1, I1, r1, a, e, q1⟩ => ?_
  subst e
  obtain rfl : v = Value.ref a := r1
  have fp : ∀ b ∈ [s1.heap.objs.size], FpOk X pins H1 b := fun b hb => by
    obtain rfl : b = s1.heap.objs.size := by simpa using hb
    exact I1.fpOk (Nat.le_refl _) (I1.hok.fresh (Nat.le_refl _))
  rcases q1 with ⟨⟨xs, hq⟩, q⟩ | ⟨⟨xs, hq⟩, q⟩
  · obtain ⟨its, _, p, _⟩ := I1.list hq
    exact wpAny_pyIter_list p.isList ⟨_, _, _, _, H1, rfl, I1.kept (t' := s1.toks) fun b o e => Heap.get?_push_of_some _ e, turn_list a _, ⟨_, Heap.get?_push_size _ rfl, rfl, rfl⟩, fp, q⟩
  · obtain ⟨its, _, p, _⟩ := I1.tuple hq
    exact wpAny_pyIter_tuple (show s1.heap.IsTuple a its.toArray from p) ⟨_, _, _, _, H1, rfl, I1.kept (t' := s1.toks) fun b o e => Heap.get?_push_of_some _ e, turn_tuple a _, ⟨_, Heap.get?_push_size _ rfl, rfl, rfl⟩, fp, q⟩
section
variable {Y : Lay} {ι : Nat → Addr} {n : Nat} {H : Hp} {K : PySem.W.Frag} {a : Addr} {xs : List MV}
theorem jrel_list {hm : MHp} {v : MV} (hr : HR Y ι hm H) (r : Rep Y ι hm.length H v (.ref a)) : JRel Y ι hm.length H (Itl K a) xs (fun h' => lstOf h' v = some xs) := by
  intro qh hs0 ι' hm' H' hr' ex ok i
  obtain ⟨b, vs, eb, hs, ra⟩ := lstOf_rep K hr' ((r.rehid hs0).mono ex hr.live) ok
  cases eb
  refine ⟨fun e => ⟨vs, hs, by rw [← ra.length]; exact List.getElem?_eq_none_iff.mp e⟩, fun v e => ?_⟩
  obtain ⟨y, hy, ry⟩ := ra.get e
  refine ⟨⟨vs, y, hs, hy⟩, fun x H2 ⟨e2, hx⟩ => ?_⟩
  subst e2
  have ex := hx vs hs
  rw [hy] at ex
  cases ex
  exact ⟨hr', .refl, ry⟩
theorem jrel_tup {hm : MHp} {vs : List V} (hr : HR Y ι hm H) (ha : H a = some (.tup vs)) (r : RepAll Y ι hm.length H xs vs) : JRel Y ι hm.length H (Itt K a) xs (fun _ => True) := by
  intro qh hs0 ι' hm' H' hr' ex _ i
  have ra := (r.rehid hs0).mono ex hr.live
  have hs : SqT K H' a vs := SqT.of (ex.imm hr.live ha rfl)
  refine ⟨fun e => ⟨vs, hs, by rw [← ra.length]; exact List.getElem?_eq_none_iff.mp e⟩, fun v e => ?_⟩
  obtain ⟨y, hy, ry⟩ := ra.get e
  refine ⟨⟨vs, y, hs, hy⟩, fun x H2 ⟨e2, hx⟩ => ?_⟩
  subst e2
  have ex := hx vs hs
  rw [hy] at ex
  cases ex
  exact ⟨hr', .refl, ry⟩
end
theorem si_seq {Y : Lay} {W : WX} {X : Cx} {a : ME} {tg e : Expr} (ha : SE Y W X a e) : SI Y W X (iSeq a) tg e :=
  piI (pi_any ha) fun s H R ⟨ι, sm, hm, Rm, Em, hr, rs, q, tx, tr⟩ => by
    refine ⟨ι, sm, hm, _, Em, hr, rs, q, fun v h1 ι1 H1 x hr1 e1 r1 q1 => ?_, tx⟩
    have go : ∀ (v : MV) (xs : List MV), Rep Y ι1 h1.length H1 v x → lstOf h1 v = some xs → Rm xs (fun h' => lstOf h' v = some xs) h1 → ∃ a, x = .ref a ∧ (((∃ xs, SqL X.K H1 a xs) ∧ R (Itl X.K a) H1) ∨ ((∃ xs, SqT X.K H1 a xs) ∧ R (Itt X.K a) H1)) := by
      intro v xs r e q
      obtain ⟨b, vs, eb, hs, ra⟩ := lstOf_rep X.K hr1 r e
      subst eb
      exact ⟨b, rfl, .inl ⟨⟨vs, hs⟩, tr _ _ _ _ _ _ hr1 e1 (jrel_list hr1 r) q⟩⟩
    cases r1 with
    | @tup xs vs a ea ra => exact ⟨a, rfl, .inr ⟨⟨vs, SqT.of ea⟩, tr _ _ _ _ _ _ hr1 e1 (jrel_tup hr1 ea ra) q1⟩⟩
    | fl ea o ra => obtain ⟨xs, e, q⟩ := q1; exact go _ xs (.fl ea o ra) e q
    | sc ea o ra => obtain ⟨xs, e, q⟩ := q1; exact go _ xs (.sc ea o ra) e q
    | ref hi => obtain ⟨xs, e, q⟩ := q1; exact go _ xs (.ref hi) e q
    | _ => obtain ⟨xs, e, q⟩ := q1; cases e

/-! ### range -/
/-- lo, lo + 1, .. below hi -/
def rng (lo hi : Int) : List MV := (List.range (hi - lo).toNat).map fun i : Nat => .int (lo + i)
def iRng1 (r : MA) : MI := fun s h R E => r s h (fun vs h1 => match vs with
  | [.int j] => j < 2 ^ 62 ∧ -(2 ^ 62) ≤ j ∧ R (rng 0 j) (fun _ => True) h1
  | _ => False) E
def iRng2 (r : MA) : MI := fun s h R E => r s h (fun vs h1 => match vs with
  | [.int i, .int j] => (i < 2 ^ 62 ∧ -(2 ^ 62) ≤ i) ∧ (j < 2 ^ 62 ∧ -(2 ^ 62) ≤ j) ∧ R (rng i j) (fun _ => True) h1
  | _ => False) E
theorem jrel_rng {Y : Lay} {ι : Nat → Addr} {n : Nat} {H : Hp} {lo hi : Int} {k : Nat} (hk : k = (hi - lo).toNat) : JRel Y ι n H (Itr lo k) (rng lo hi) (fun _ => True) := by
  subst hk
  intro qh hs0 ι' hm' H' hr' ex _ i
  refine ⟨fun e => ?_, fun v e => ?_⟩
  · have := List.getElem?_eq_none_iff.mp e
    unfold rng at this
    rw [List.length_map, List.length_range] at this
    exact this
  · unfold rng at e
    rw [List.getElem?_map] at e
    obtain ⟨j, hj, ev⟩ := Option.map_eq_some_iff.mp e
    obtain ⟨hl, ej⟩ := List.getElem?_eq_some_iff.mp hj
    rw [List.length_range] at hl
    rw [List.getElem_range] at ej
    subst ej
    have hl2 := hl
    refine ⟨hl2, fun x H2 ⟨e2, ez⟩ => ?_⟩
    subst e2 ez
    subst ev
    exact ⟨hr', .refl, .int _⟩
theorem si_rng1 {Y : Lay} {W : WX} {X : Cx} {r : MA} {tg a : Expr} {p pos : Pos} (hg : Gl X "range") (hm : X.mg "range" = none) (ha : SA Y W X r [a]) (hs : starEach [a] X.env = [(false, eval a X.env)] := by rfl) : SI Y W X (iRng1 r) tg (.Call (.Name "range" p) [a] [] pos) :=
  piI (pi_range1 hg hm ha hs) fun s H R ⟨ι, sm, hm, Rm, Em, hr, rs, q, tx, tr⟩ => by
    refine ⟨ι, sm, hm, _, Em, hr, rs, q, fun vs h1 ι1 H1 xs hr1 e1 r1 q1 => ?_, tx⟩
    cases r1 with
    | nil => exact q1.elim
    | cons ra rb =>
      cases rb with
      | nil =>
        cases ra with
        | int j => exact ⟨j, rfl, q1.2.1, q1.1, tr _ _ _ _ _ _ hr1 e1 (jrel_rng (by simp)) q1.2.2⟩
        | _ => exact q1.elim
      | cons rc rd => cases ra <;> exact q1.elim
theorem si_rng2 {Y : Lay} {W : WX} {X : Cx} {r : MA} {tg a b : Expr} {p pos : Pos} (hg : Gl X "range") (hm : X.mg "range" = none) (ha : SA Y W X r [a, b]) (hs : starEach [a, b] X.env = [(false, eval a X.env), (false, eval b X.env)] := by rfl) (hs2 : starEach [b] X.env = [(false, eval b X.env)] := by rfl) : SI Y W X (iRng2 r) tg (.Call (.Name "range" p) [a, b] [] pos) :=
  piI (pi_range2 hg hm ha hs hs2) fun s H R ⟨ι, sm, hm, Rm, Em, hr, rs, q, tx, tr⟩ => by
    refine ⟨ι, sm, hm, _, Em, hr, rs, q, fun vs h1 ι1 H1 xs hr1 e1 r1 q1 => ?_, tx⟩
    cases r1 with
    | nil => exact q1.elim
    | cons ra rb =>
      cases rb with
      | nil => cases ra <;> exact q1.elim
      | cons rc rd =>
        cases rd with
        | nil =>
          cases ra with
          | int i =>
            cases rc with
            | int j => exact ⟨i, j, rfl, ⟨q1.1.2, q1.1.1, q1.2.1.2, q1.2.1.1⟩, tr _ _ _ _ _ _ hr1 e1 (jrel_rng rfl) q1.2.2⟩
            | _ => exact q1.elim
          | _ => exact q1.elim
        | cons _ _ =>
          cases ra with
          | int i => cases rc <;> exact q1.elim
          | _ => exact q1.elim
/-! ### enumerate -/
/-- the tuple at a, each item in a new pair -/
def ItE (K : PySem.W.Frag) (a : Addr) : It :=
  ⟨fun i H => ∃ (xs : List V) (x : V), SqT K H a xs ∧ xs[i]? = some x, fun i H v H' => ∃ T x, v = .ref T ∧ H T = none ∧ H' = upd H T (.tup [.int (i : Nat), x]) ∧ ∀ xs, SqT K H a xs → xs[i]? = some x, fun i H => ∃ xs : List V, SqT K H a xs ∧ xs.length ≤ i⟩
theorem turn_enumT {P : Program} {w : World} {K : PySem.W.Frag} {elts : List Expr} {kk : Nat} {tpos : Pos} (a e it : Addr) (hae : a ≠ it) (hea : e ≠ a) :
    Turn P w K (.Tuple elts kk tpos) (ItE K a) [e, it] e (fun i h => (∃ old, IsEnum h e it ((i : Nat) : Int) old) ∧ h.IsTupleIter it a i ∧ e ≠ it) where
  mem := by simp
  obj := fun i h st b hb => by
    obtain ⟨⟨old, he⟩, ⟨o, ho, hc, hd⟩, _⟩ := st
    rcases (show b = e ∨ b = it by simpa using hb) with z | z
    · exact z ▸ ⟨_, he, fun v q => nomatch q⟩
    · exact z ▸ ⟨o, ho, fun v q => by rw [hd] at q; cases q⟩
  keep := fun i h h' ⟨⟨old, he⟩, hi, hne⟩ k => ⟨⟨old, k e (by simp) _ he⟩, hi.at fun o q => k it (by simp) o q, hne⟩
  item := by
    intro X hP hw hK hc i pins s σ H E I hf st hg
    subst hP hw hK
    obtain ⟨⟨old, he⟩, hit, hne⟩ := st
    obtain ⟨xs, x, hq, hx⟩ := hg
    obtain ⟨its, rv, p, _⟩ := I.tuple hq
    obtain ⟨u, hu, ru⟩ := rv.get hx
    have hlt : i < its.toArray.size := by
      have := (List.getElem?_eq_some_iff.mp hu).1
      simpa using this
    have hel : e < s.heap.objs.size := Heap.lt_size he
    have hil : it < s.heap.objs.size := by obtain ⟨_, q, _⟩ := hit; exact Heap.lt_size q
    refine wpAny_pyNext_enum_itemD (Draws.tuple (A := X.A.in1) (show X.A.in1.handled = none from I.ok.hd hc) it a hae its.toArray) he (show s.heap.IsTupleIter it a i ∧ s.heap.IsTuple a its.toArray from ⟨hit, p⟩) hlt hne (by simp [hne, hea]) fun y h' tk hy ho hs hT hsz hk => ?_
    obtain ⟨hit', _⟩ := hs
    have ey : y = u := by
      have hy2 : its.toArray[i]? = some y := hy
      have hu2 : its.toArray[i]? = some u := by simpa using hu
      rw [hu2] at hy2
      exact (Option.some.inj hy2).symm
    subst ey
    refine ⟨_, rfl, wpAny_letOwnedTupleGo_enum (s := { s with heap := h', toks := tk + 1 }) ho fun h'' he' sb => ?_⟩
    have hT2 : h''.get? s.heap.objs.size = some { cls := .type "tuple", data := .seq #[.int i tk, y] } := (sb.2 _ (Nat.ne_of_gt hel)).trans hT
    have new : ObjOk X.prog X.w (upd H s.heap.objs.size (.tup [.int (i : Nat), x])) h'' s.heap.objs.size (.tup [.int (i : Nat), x]) :=
      ⟨by show 2 ≤ sizeLine; decide, [.int i tk, y], .cons ⟨_, rfl⟩ (.cons ru .nil), ⟨_, hT2, rfl, _, rfl⟩⟩
    have I1 : Inv X pins σ (upd H s.heap.objs.size (.tup [.int (i : Nat), x])) { s with heap := h'', toks := tk + 1 } :=
      I.turnedNew (ch := [e, it]) (fun b ob hb q => (sb.2 b (fun z => hb (by simp [z]))).trans (hk b ob (fun z => hb (by simp [z])) (fun z => hb (by simp [z])) q)) hf (Nat.le_refl _) new
    refine ⟨.ref s.heap.objs.size, _, I1, rfl, ⟨_, x, rfl, I.hok.fresh (Nat.le_refl _), rfl, fun ys hy => by rw [I.tuple_inj hy hq]; exact hx⟩, ⟨⟨y, ?_⟩, hit'.at fun o q => (sb.2 it (Ne.symm hne)).trans q, hne⟩, fun b hb => ?_⟩
    · rw [show ((i + 1 : Nat) : Int) = (i : Int) + 1 by omega]
      exact he'
    · have hb' : b < s.heap.objs.size := by
        rcases (show b = e ∨ b = it by simpa using hb) with z | z
        · exact z ▸ hel
        · exact z ▸ hil
      rw [upd_ne (Nat.ne_of_lt hb')]
      exact (hf b hb).1
  done := by
    intro X hP hw hK hc i pins s σ H E I hf st hg
    subst hP hw hK
    obtain ⟨⟨old, he⟩, hit, hne⟩ := st
    obtain ⟨xs, hq, hx⟩ := hg
    obtain ⟨its, rv, p, _⟩ := I.tuple hq
    obtain ⟨f0, f1, f2, f3, f4, f5⟩ := hf it (by simp)
    have hl := rv.length
    have hn : its.toArray[i]? = none := by simp; omega
    have D : Draws X.prog X.w X.A.in1 it [it, a] 0 (fun _ _ => True) (fun j h => h.IsTupleIter it a (i + j) ∧ h.IsTuple a its.toArray) := {
      live := fun _ _ ⟨⟨o, ho, _⟩, _⟩ => ⟨o, ho⟩
      frame := fun _ _ _ st hk => ⟨st.1.at fun o e => hk it (by simp) o e, st.2.at fun o e => hk a (by simp) o e⟩
      item := fun j s Q E hj => absurd hj (Nat.not_lt_zero _)
      done := fun s Q E st hE => wpAny_nextOf_tuple_end (show X.A.in1.handled = none from I.ok.hd hc) st.1 st.2 hn hE }
    exact wpAny_pyNext_enum_endD D he (show s.heap.IsTupleIter it a (i + 0) ∧ s.heap.IsTuple a its.toArray from ⟨hit, p⟩) fun h' eb => ⟨rfl, I.turned (t' := s.toks) (fun b o hb q => eb b o hb q) f0 f1 f3 f4 f5⟩
  self := fun A i s Q E ⟨⟨_, he⟩, _⟩ h => wpAny_pyIter_enum he h
theorem meets_enum_tup (l : Addr) (items : Array Value) (n : Nat) (dct : Option Addr) (sl : Array (Option Value)) :
    Meets (Builtin.«enumerate.__new__» ⟨[.type "enumerate", .ref l], []⟩) (fun _ R s => s.heap.get? l = some { cls := .type "tuple", dict := dct, data := .seq items n, slots := sl } ∧
      R (.ok (.ret (.ref (s.heap.push { cls := .type "tuple_iterator", data := .fields #[.ref l, .int 0 0] }).objs.size)))
        { s with heap := (s.heap.push { cls := .type "tuple_iterator", data := .fields #[.ref l, .int 0 0] }).push { cls := .type "enumerate", data := .fields #[.none, .bool false, .ref s.heap.objs.size, rawInt 0, .none, .none] } }) :=
  .of_wp fun prog w A R s ⟨hl, h⟩ => by
    obtain ⟨hp, g, d, tk, os⟩ := s
    have hsub := sub_enumerate
    have hL : Heap.IsTuple (Shared.heap ⟨hp, g, d, tk, os⟩) l items := ⟨_, hl, rfl, n, rfl⟩
    wp_walk using AutoSeq1.wpAny_loadPart' hl
    refine wpAny_stack_any fun st => wpAny_pure ?_
    split
    · rename_i c _ _ _ _ _
      cases (c == Value.type "enumerate")
      · wp_walk using AutoSeq1.wpAny_loadPart' hl, wpAny_pyIter_tuple hL
        exact ⟨_, rfl, h⟩
      · wp_walk using AutoSeq1.wpAny_loadPart' hl, wpAny_pyIter_tuple hL
        exact ⟨_, rfl, h⟩
    · wp_walk using AutoSeq1.wpAny_loadPart' hl, wpAny_pyIter_tuple hL
      exact ⟨_, rfl, h⟩
theorem call_enum_tup {prog : Program} {w : World} {A : Around} {E : Value → Shared → Prop} {s : Shared} {l : Addr} {items : Array Value} {Q : Value → Shared → Prop} (hL : s.heap.IsTuple l items)
    (h : ∀ h', IsEnum h' (s.heap.objs.size + 1) s.heap.objs.size 0 .none → h'.IsTupleIter s.heap.objs.size l 0 → h'.objs.size = s.heap.objs.size + 2 →
      (∀ b o, s.heap.get? b = some o → h'.get? b = some o) → Q (.ref (s.heap.objs.size + 1)) { s with heap := h' }) :
    wpAny (model prog w) A (call (.type "enumerate") [.ref l]) Q E s := by
  obtain ⟨⟨c, dct, dt, sl⟩, hl, hc, n, hd⟩ := hL
  obtain rfl : c = .type "tuple" := hc
  obtain rfl : dt = .seq items n := hd
  refine callType_new F.called_enumerate (by decide) (F.typeCall_enumerate_1 _) (F.newCall_enumerate_1 _) (fun obj => F.args_object_init_2 obj _) F.entry_enumerate_new
    (meets_enum_tup l items n dct sl) ⟨hl, ?_⟩
  have hz : (s.heap.push { cls := .type "tuple_iterator", data := .fields #[.ref l, .int 0 0] }).objs.size = s.heap.objs.size + 1 := Heap.size_push ..
  show _ ∧ _
  rw [hz]
  have he : IsEnum ((s.heap.push { cls := .type "tuple_iterator", data := .fields #[.ref l, .int 0 0] }).push
      { cls := .type "enumerate", data := .fields #[.none, .bool false, .ref s.heap.objs.size, rawInt 0, .none, .none] }) (s.heap.objs.size + 1) s.heap.objs.size 0 .none := by
    have := Heap.get?_push_size (s.heap.push { cls := .type "tuple_iterator", data := .fields #[.ref l, .int 0 0] })
      (o := { cls := .type "enumerate", data := .fields #[.none, .bool false, .ref s.heap.objs.size, rawInt 0, .none, .none] }) rfl
    rwa [hz] at this
  refine ⟨⟨_, he, rfl⟩, h _ he ⟨_, Heap.get?_push_of_some _ (Heap.get?_push_size _ rfl), rfl, rfl⟩ (by rw [Heap.size_push, hz]) fun b o x => Heap.get?_push_of_some _ (Heap.get?_push_of_some _ x)⟩
def iEnA (K : PySem.W.Frag) (ta : TA) : TI := fun σ H R => ta σ H fun vs H1 => ∃ a, vs = [.ref a] ∧ (((∃ xs, SqL K H1 a xs) ∧ R (Ite K a) H1) ∨ ((∃ xs, SqT K H1 a xs) ∧ R (ItE K a) H1))
theorem pi_enA {X : Cx} {e : Expr} {ta : TA} {p pos tpos : Pos} {elts : List Expr} {kk : Nat} (hg : Gl X "enumerate") (hm : X.mg "enumerate" = none) (ha : PA X [e] ta) (hs : starEach [e] X.env = [(false, eval e X.env)] := by rfl) :
    PI X (.Tuple elts kk tpos) (.Call (.Name "enumerate" p) [e] [] pos) (iEnA X.K ta) := by
  refine ⟨fun pins s σ H R I h => ?_⟩
  refine Call_ (ld_blt I hg hm boot_enumerate (PyProof.Rows.callWith_type1 (thn (ha.run pos pins s σ H _ I h) fun us s1 ⟨vs, H1, I1, r1, a, ex, q1⟩ => ?_) hs rfl))
  subst ex
  cases r1 with
  | cons r rr =>
    cases rr
    obtain rfl := r
    have fp : ∀ b ∈ [s1.heap.objs.size + 1, s1.heap.objs.size], FpOk X pins H1 b := fun b hb => by
      have hle : s1.heap.objs.size ≤ b := by
        rcases (show b = s1.heap.objs.size + 1 ∨ b = s1.heap.objs.size by simpa using hb) with z | z
        · exact z ▸ Nat.le_succ _
        · exact z ▸ Nat.le_refl _
      exact I1.fpOk hle (I1.hok.fresh hle)
    rcases q1 with ⟨⟨xs, hq⟩, q⟩ | ⟨⟨xs, hq⟩, q⟩
    · obtain ⟨its, rv, p', _⟩ := I1.list hq
      refine call_enumerate_list p'.isList fun h' he hit hsz hk => wpAny_pyIter_enum he ?_
      exact ⟨_, _, _, _, H1, rfl, I1.kept (t' := s1.toks) hk, turn_enum a _ s1.heap.objs.size, ⟨⟨.none, he⟩, hit, Nat.succ_ne_self _⟩, fp, q⟩
    · obtain ⟨its, rv, p', _⟩ := I1.tuple hq
      have hlt := p'.lt
      refine call_enum_tup (show s1.heap.IsTuple a its.toArray from p') fun h' he hit hsz hk => wpAny_pyIter_enum he ?_
      exact ⟨_, _, _, _, H1, rfl, I1.kept (t' := s1.toks) hk, turn_enumT a _ s1.heap.objs.size (Nat.ne_of_lt hlt) (Nat.ne_of_gt (Nat.lt_succ_of_lt hlt)), ⟨⟨.none, he⟩, hit, Nat.succ_ne_self _⟩, fp, q⟩
/-- the pairs that enumerate hands out -/
def enumL (xs : List MV) : List MV := xs.zipIdx.map fun p => .tup [.int (p.2 : Nat), p.1]
def iEnum (r : MA) : MI := fun s h R E => r s h (fun vs h1 => match vs with
  | [.tup xs] => R (enumL xs) (fun _ => True) h1
  | [v] => ∃ xs, lstOf h1 v = some xs ∧ R (enumL xs) (fun h' => lstOf h' v = some xs) h1
  | _ => False) E
section
variable {Y : Lay} {ι : Nat → Addr} {n : Nat} {H : Hp} {K : PySem.W.Frag} {a b : Addr} {xs ys : List MV}
/-- a new pair -/
theorem pair_rep {hm : MHp} {v u : MV} {x y : V} {T : Addr} (hr : HR Y ι hm H) (r : Rep Y ι hm.length H v x) (q : Rep Y ι hm.length H u y) (hT : H T = none) :
    HR Y ι hm (upd H T (.tup [x, y])) ∧ Ext hm.length hm.length ι ι H (upd H T (.tup [x, y])) ∧ Rep Y ι hm.length (upd H T (.tup [x, y])) (.tup [v, u]) (.ref T) :=
  ⟨hr.new hT, Ext.new hT, .tup upd_same (.cons (r.mono (Ext.new hT) hr.live) (.cons (q.mono (Ext.new hT) hr.live) .nil))⟩
theorem enumL_get {xs : List MV} {i : Nat} : (enumL xs)[i]? = xs[i]?.map fun x => .tup [.int (i : Nat), x] := by
  unfold enumL
  rw [List.getElem?_map, List.getElem?_zipIdx]
  cases xs[i]? <;> simp
theorem jrel_enumL {hm : MHp} {v : MV} (hr : HR Y ι hm H) (r : Rep Y ι hm.length H v (.ref a)) : JRel Y ι hm.length H (Ite K a) (enumL xs) (fun h' => lstOf h' v = some xs) := by
  intro qh hs0 ι' hm' H' hr' ex ok i
  obtain ⟨b, vs, eb, hs, ra⟩ := lstOf_rep K hr' ((r.rehid hs0).mono ex hr.live) ok
  cases eb
  rw [enumL_get]
  refine ⟨fun e => ⟨vs, hs, by rw [← ra.length]; exact List.getElem?_eq_none_iff.mp (Option.map_eq_none_iff.mp e)⟩, fun v e => ?_⟩
  obtain ⟨x0, e0, ev⟩ := Option.map_eq_some_iff.mp e
  obtain ⟨y, hy, ry⟩ := ra.get e0
  subst ev
  refine ⟨⟨vs, y, hs, hy⟩, fun x H2 ⟨T, z, e1, e2, e3, hx⟩ => ?_⟩
  subst e1 e3
  have ez := hx vs hs
  rw [hy] at ez
  cases ez
  exact pair_rep hr' (.int _) ry e2
theorem jrel_enumT {hm : MHp} {vs : List V} (hr : HR Y ι hm H) (ha : H a = some (.tup vs)) (r : RepAll Y ι hm.length H xs vs) : JRel Y ι hm.length H (ItE K a) (enumL xs) (fun _ => True) := by
  intro qh hs0 ι' hm' H' hr' ex _ i
  have ra := (r.rehid hs0).mono ex hr.live
  have hs : SqT K H' a vs := SqT.of (ex.imm hr.live ha rfl)
  rw [enumL_get]
  refine ⟨fun e => ⟨vs, hs, by rw [← ra.length]; exact List.getElem?_eq_none_iff.mp (Option.map_eq_none_iff.mp e)⟩, fun v e => ?_⟩
  obtain ⟨x0, e0, ev⟩ := Option.map_eq_some_iff.mp e
  obtain ⟨y, hy, ry⟩ := ra.get e0
  subst ev
  refine ⟨⟨vs, y, hs, hy⟩, fun x H2 ⟨T, z, e1, e2, e3, hx⟩ => ?_⟩
  subst e1 e3
  have ez := hx vs hs
  rw [hy] at ez
  cases ez
  exact pair_rep hr' (.int _) ry e2
end
theorem si_enum {Y : Lay} {W : WX} {X : Cx} {r : MA} {elts : List Expr} {kk : Nat} {tpos : Pos} {a : Expr} {p pos : Pos} (hg : Gl X "enumerate") (hm : X.mg "enumerate" = none) (ha : SA Y W X r [a]) (hs : starEach [a] X.env = [(false, eval a X.env)] := by rfl) : SI Y W X (iEnum r) (.Tuple elts kk tpos) (.Call (.Name "enumerate" p) [a] [] pos) :=
  piI (pi_enA hg hm ha hs) fun s H R ⟨ι, sm, hm, Rm, Em, hr, rs, q, tx, tr⟩ => by
    refine ⟨ι, sm, hm, _, Em, hr, rs, q, fun vs h1 ι1 H1 xs hr1 e1 r1 q1 => ?_, tx⟩
    have go : ∀ (v : MV) (x : V) (xs : List MV), Rep Y ι1 h1.length H1 v x → lstOf h1 v = some xs → Rm (enumL xs) (fun h' => lstOf h' v = some xs) h1 → ∃ a, [x] = [V.ref a] ∧ (((∃ xs, SqL X.K H1 a xs) ∧ R (Ite X.K a) H1) ∨ ((∃ xs, SqT X.K H1 a xs) ∧ R (ItE X.K a) H1)) := by
      intro v x xs r e q
      obtain ⟨b, vs, eb, hs, ra⟩ := lstOf_rep X.K hr1 r e
      subst eb
      exact ⟨b, rfl, .inl ⟨⟨vs, hs⟩, tr _ _ _ _ _ _ hr1 e1 (jrel_enumL hr1 r) q⟩⟩
    cases r1 with
    | nil => exact q1.elim
    | cons ra rb =>
      cases rb with
      | nil =>
        cases ra with
        | @tup xs vs a ea ra => exact ⟨a, rfl, .inr ⟨⟨vs, SqT.of ea⟩, tr _ _ _ _ _ _ hr1 e1 (jrel_enumT hr1 ea ra) q1⟩⟩
        | fl ea o ra => obtain ⟨xs, e, q⟩ := q1; exact go _ _ xs (.fl ea o ra) e q
        | sc ea o ra => obtain ⟨xs, e, q⟩ := q1; exact go _ _ xs (.sc ea o ra) e q
        | ref hi => obtain ⟨xs, e, q⟩ := q1; exact go _ _ xs (.ref hi) e q
        | _ => obtain ⟨xs, e, q⟩ := q1; cases e
      | cons _ _ => cases ra <;> exact q1.elim

/-! ### zip of two lists, of two tuples -/
def zipL (xs ys : List MV) : List MV := List.zipWith (fun x y => .tup [x, y]) xs ys
def iZip (r : MA) : MI := fun s h R E => r s h (fun vs h1 => match vs with
  | [.tup xs, .tup ys] => R (zipL xs ys) (fun _ => True) h1
  | [v, u] => ∃ xs ys, lstOf h1 v = some xs ∧ lstOf h1 u = some ys ∧ R (zipL xs ys) (fun h' => lstOf h' v = some xs ∧ lstOf h' u = some ys) h1
  | _ => False) E
theorem zipL_get {xs ys : List MV} {i : Nat} : (zipL xs ys)[i]? = match xs[i]?, ys[i]? with | some x, some y => some (.tup [x, y]) | _, _ => none := by
  unfold zipL
  rw [List.getElem?_zipWith]
  cases xs[i]? <;> cases ys[i]? <;> rfl
section
variable {Y : Lay} {ι : Nat → Addr} {n : Nat} {H : Hp} {K : PySem.W.Frag} {a b : Addr} {xs ys : List MV}
theorem zip_none {xs ys : List MV} {i : Nat} (h : (zipL xs ys)[i]? = none) : xs.length ≤ i ∨ ys.length ≤ i := by
  have := List.getElem?_eq_none_iff.mp h
  unfold zipL at this
  rw [List.length_zipWith] at this
  omega
theorem jrel_zipL {hm : MHp} {v u : MV} (hr : HR Y ι hm H) (r : Rep Y ι hm.length H v (.ref a)) (r2 : Rep Y ι hm.length H u (.ref b)) : JRel Y ι hm.length H (Itz K a b) (zipL xs ys) (fun h' => lstOf h' v = some xs ∧ lstOf h' u = some ys) := by
  intro qh hs0 ι' hm' H' hr' ex ok i
  obtain ⟨a', vs, eb, hs, ra⟩ := lstOf_rep K hr' ((r.rehid hs0).mono ex hr.live) ok.1
  cases eb
  obtain ⟨b', ws, eb, hs2, rb⟩ := lstOf_rep K hr' ((r2.rehid hs0).mono ex hr.live) ok.2
  cases eb
  refine ⟨fun e => ⟨vs, ws, hs, hs2, by rw [← ra.length, ← rb.length]; exact zip_none e⟩, fun v e => ?_⟩
  rw [zipL_get] at e
  cases ex : xs[i]? with
  | none => simp [ex] at e
  | some x0 =>
    cases ey : ys[i]? with
    | none => simp [ex, ey] at e
    | some y0 =>
      simp only [ex, ey, Option.some.injEq] at e
      subst e
      obtain ⟨x, hx, rx⟩ := ra.get ex
      obtain ⟨y, hy, ry⟩ := rb.get ey
      refine ⟨⟨vs, ws, x, y, hs, hs2, hx, hy⟩, fun z H2 ⟨T, x', y', e1, e2, e3, hx', hy'⟩ => ?_⟩
      subst e1 e3
      have e5 := hx' vs hs
      rw [hx] at e5
      cases e5
      have e6 := hy' ws hs2
      rw [hy] at e6
      cases e6
      exact pair_rep hr' rx ry e2
theorem jrel_zipT {hm : MHp} {vs ws : List V} (hr : HR Y ι hm H) (ha : H a = some (.tup vs)) (r : RepAll Y ι hm.length H xs vs) (hb : H b = some (.tup ws)) (r2 : RepAll Y ι hm.length H ys ws) : JRel Y ι hm.length H (RZ.ItzT K a b) (zipL xs ys) (fun _ => True) := by
  intro qh hs0 ι' hm' H' hr' ex _ i
  have ra := (r.rehid hs0).mono ex hr.live
  have rb := (r2.rehid hs0).mono ex hr.live
  have hs : SqT K H' a vs := SqT.of (ex.imm hr.live ha rfl)
  have hs2 : SqT K H' b ws := SqT.of (ex.imm hr.live hb rfl)
  refine ⟨fun e => ⟨vs, ws, hs, hs2, by rw [← ra.length, ← rb.length]; exact zip_none e⟩, fun v e => ?_⟩
  rw [zipL_get] at e
  cases ex : xs[i]? with
  | none => simp [ex] at e
  | some x0 =>
    cases ey : ys[i]? with
    | none => simp [ex, ey] at e
    | some y0 =>
      simp only [ex, ey, Option.some.injEq] at e
      subst e
      obtain ⟨x, hx, rx⟩ := ra.get ex
      obtain ⟨y, hy, ry⟩ := rb.get ey
      refine ⟨⟨vs, ws, x, y, hs, hs2, hx, hy⟩, fun z H2 ⟨T, x', y', e1, e2, e3, hx', hy'⟩ => ?_⟩
      subst e1 e3
      have e5 := hx' vs hs
      rw [hx] at e5
      cases e5
      have e6 := hy' ws hs2
      rw [hy] at e6
      cases e6
      exact pair_rep hr' rx ry e2
end
theorem si_zip {Y : Lay} {W : WX} {X : Cx} {r : MA} {elts : List Expr} {kk : Nat} {tpos : Pos} {a b : Expr} {p pos : Pos} (hg : Gl X "zip") (hm : X.mg "zip" = none) (ha : SA Y W X r [a, b])
    (hs : starEach [a, b] X.env = (false, eval a X.env) :: starEach [b] X.env := by rfl) (hpl : (backTo pos (starEach [b] X.env)).any (·.1) = false := by rfl) : SI Y W X (iZip r) (.Tuple elts kk tpos) (.Call (.Name "zip" p) [a, b] [] pos) :=
  piI (RZ.pi_zipA hg hm ha hs hpl) fun s H R ⟨ι, sm, hm, Rm, Em, hr, rs, q, tx, tr⟩ => by
    refine ⟨ι, sm, hm, _, Em, hr, rs, q, fun vs h1 ι1 H1 xs hr1 e1 r1 q1 => ?_, tx⟩
    have go : ∀ (v u : MV) (x y : V) (xs ys : List MV), Rep Y ι1 h1.length H1 v x → Rep Y ι1 h1.length H1 u y → lstOf h1 v = some xs → lstOf h1 u = some ys → Rm (zipL xs ys) (fun h' => lstOf h' v = some xs ∧ lstOf h' u = some ys) h1 →
        ∃ a b xs ys, [x, y] = [V.ref a, V.ref b] ∧ ((SqL X.K H1 a xs ∧ SqL X.K H1 b ys ∧ R (Itz X.K a b) H1) ∨ (SqT X.K H1 a xs ∧ SqT X.K H1 b ys ∧ R (RZ.ItzT X.K a b) H1)) := by
      intro v u x y xs ys rv ru ev eu q
      obtain ⟨a, vs, ea, hs, ra⟩ := lstOf_rep X.K hr1 rv ev
      obtain ⟨b, ws, eb, hs2, rb⟩ := lstOf_rep X.K hr1 ru eu
      subst ea eb
      exact ⟨a, b, vs, ws, rfl, .inl ⟨hs, hs2, tr _ _ _ _ _ _ hr1 e1 (jrel_zipL hr1 rv ru) q⟩⟩
    cases r1 with
    | nil => exact q1.elim
    | cons ra rb =>
      cases rb with
      | nil => cases ra <;> exact q1.elim
      | cons rc rd =>
        cases rd with
        | cons _ _ => cases ra <;> cases rc <;> exact q1.elim
        | nil =>
          rename_i v1 x1 v2 x2
          by_cases ht : ∃ xs ys, v1 = .tup xs ∧ v2 = .tup ys
          · obtain ⟨xs, ys, e1', e2'⟩ := ht
            subst e1' e2'
            cases ra with
            | @tup _ vs a ea ra =>
              cases rc with
              | @tup _ ws b eb rb => exact ⟨a, b, vs, ws, rfl, .inr ⟨SqT.of ea, SqT.of eb, tr _ _ _ _ _ _ hr1 e1 (jrel_zipT hr1 ea ra eb rb) q1⟩⟩
          · have q2 : ∃ xs ys, lstOf h1 v1 = some xs ∧ lstOf h1 v2 = some ys ∧ Rm (zipL xs ys) (fun h' => lstOf h' v1 = some xs ∧ lstOf h' v2 = some ys) h1 := by
              cases v1 with
              | tup xs =>
                cases v2 with
                | tup ys => exact absurd ⟨xs, ys, rfl, rfl⟩ ht
                | _ => exact q1
              | _ => exact q1
            obtain ⟨xs, ys, e1', e2', q⟩ := q2
            exact go _ _ _ _ xs ys ra rc e1' e2' q
end Mini
/-! Mini, part 6: list comprehensions. -/
namespace Mini
open PySem PySem.Spec PyProof.Rows L2

abbrev Lay.hide (Y : Lay) (D : Addr) : Lay := Y.re fun a => Y.hid a ∨ a = D
/-- no exception is wanted -/
abbrev NoW : WX := fun _ _ _ _ => False
abbrev NoE : MQ := fun _ _ => False
theorem trX_no {Y : Lay} {ι : Nat → Addr} {n : Nat} {H : Hp} {s : L2.St} {W : WX} : TrX Y ι n H s NoE W := fun _ _ _ _ _ _ _ _ _ z => z.elim
theorem trX_any {Y : Lay} {ι : Nat → Addr} {n : Nat} {H : Hp} {s : L2.St} {Em : MQ} {W : WX} (h : ∀ e k, ¬ Em e k) : TrX Y ι n H s Em W := fun _ _ _ _ _ _ _ _ _ z => absurd z (h _ _)

section
variable {Y : Lay} {ι ι' : Nat → Addr} {n n' : Nat} {H H' : Hp} {hm : MHp} {D : Addr} {q : Addr → Prop}
theorem repC_rehid (hs : ∀ a, q a → Y.hid a ∨ H a = none) {a : Addr} {c : Cell} (r : RepC Y ι n H a c) : RepC (Y.re q) ι n H a c := by
  cases c with
  | lst xs => obtain ⟨vs, h, r⟩ := r; exact ⟨vs, h, r.rehid hs⟩
  | dct ks xs => obtain ⟨es, h, g, r, r2⟩ := r; exact ⟨es, h, g, r.rehid hs, r2.rehid hs⟩
  | st xs => obtain ⟨ys, es, h, pm, g, r⟩ := r; exact ⟨ys, es, h, pm, g, r.rehid hs⟩
  | ins c xs => obtain ⟨dx, ys, h, g, r⟩ := r; exact ⟨dx, ys, h, g, r.rehid hs⟩
theorem repC_unhid (hs : ∀ a, q a → Y.hid a) {a : Addr} {c : Cell} (r : RepC Y ι n H a c) : RepC (Y.re q) ι n H a c := by
  cases c with
  | lst xs => obtain ⟨vs, h, r⟩ := r; exact ⟨vs, h, r.unhid hs⟩
  | dct ks xs => obtain ⟨es, h, g, r, r2⟩ := r; exact ⟨es, h, g, r.unhid hs, r2.unhid hs⟩
  | st xs => obtain ⟨ys, es, h, pm, g, r⟩ := r; exact ⟨ys, es, h, pm, g, r.unhid hs⟩
  | ins c xs => obtain ⟨dx, ys, h, g, r⟩ := r; exact ⟨dx, ys, h, g, r.unhid hs⟩
theorem repC_updH {o u : HO} (hD : Y.hid D) (e : H D = some u) (hk : mutK u = true) {a : Addr} {c : Cell} (ha : a ≠ D) (r : RepC Y ι n H a c) : RepC Y ι n (upd H D o) a c := by
  cases c with
  | lst xs => obtain ⟨vs, h, r⟩ := r; exact ⟨vs, by rw [upd_ne ha]; exact h, r.updH hD e hk⟩
  | dct ks xs => obtain ⟨es, h, g, r, r2⟩ := r; exact ⟨es, by rw [upd_ne ha]; exact h, g, r.updH hD e hk, r2.updH hD e hk⟩
  | st xs => obtain ⟨ys, es, h, pm, g, r⟩ := r; exact ⟨ys, es, by rw [upd_ne ha]; exact h, pm, g, r.updH hD e hk⟩
  | ins c xs => obtain ⟨dx, ys, h, g, r⟩ := r; exact ⟨dx, ys, by rw [upd_ne ha]; exact h, g, r.updH hD e hk⟩
theorem HR.hideNew (hr : HR Y ι hm H) (hD : H D = none) (o : HO) : HR (Y.hide D) ι hm (upd H D o) where
  inj := hr.inj
  cell := fun i c e => repC_mono (Ext.new hD) hr.live (fun u hu _ => by rw [upd_ne (ne_of_none hu hD)]; exact hu) (repC_rehid (fun a ha => ha.imp id fun z => by rw [z]; exact hD) (hr.cell i c e))
  hid := fun a ha => by
    rcases ha with ha | rfl
    · obtain ⟨⟨u, hu⟩, h2⟩ := hr.hid a ha
      exact ⟨⟨u, by rw [upd_ne (ne_of_none hu hD)]; exact hu⟩, h2⟩
    · exact ⟨⟨o, upd_same⟩, (hr.off hD).2⟩
theorem HR.unhide (hr : HR (Y.hide D) ι hm H) : HR Y ι hm H where
  inj := hr.inj
  cell := fun i c e => repC_unhid (Y := Y.hide D) (q := Y.hid) (fun a ha => .inl ha) (hr.cell i c e)
  hid := fun a ha => hr.hid a (.inl ha)
theorem HR.updH {o u : HO} (hr : HR Y ι hm H) (hD : Y.hid D) (e : H D = some u) (hk : mutK u = true) : HR Y ι hm (upd H D o) where
  inj := hr.inj
  cell := fun i c e' => repC_updH hD e hk ((hr.hid D hD).2 i (List.getElem?_eq_some_iff.mp e').1) (hr.cell i c e')
  hid := fun a ha => by
    refine ⟨?_, (hr.hid a ha).2⟩
    by_cases z : a = D
    · exact ⟨o, by rw [z, upd_same]⟩
    · obtain ⟨u, hu⟩ := (hr.hid a ha).1
      exact ⟨u, by rw [upd_ne z]; exact hu⟩
theorem RepAll.unhide {xs : List MV} {vs : List V} (r : RepAll (Y.hide D) ι n H xs vs) : RepAll Y ι n H xs vs := RepAll.unhid (Y := Y.hide D) (q := Y.hid) (fun a ha => .inl ha) r
theorem Rep.unhide {x : MV} {v : V} (r : Rep (Y.hide D) ι n H x v) : Rep Y ι n H x v := Rep.unhid (Y := Y.hide D) (q := Y.hid) (fun a ha => .inl ha) r
/-- what was free ahead may be written -/
theorem Ext.updF (e : Ext n n' ι ι' H H') (hD : H D = none) {o : HO} : Ext n n' ι ι' H (upd H' D o) :=
  ⟨e.le, e.same, fun a u h ho => by rw [upd_ne (ne_of_none h hD)]; exact e.keep a u h ho, e.fresh⟩
end

/-! ### slots of the block -/
def wipeM (s : MSt) : List Nat → MSt
  | [] => s
  | v :: vs => (wipeM s vs).set v none
theorem RS.wipe {Y : Lay} {ι : Nat → Addr} {n : Nat} {H : Hp} {sm : MSt} {s : L2.St} (r : RS Y ι n H sm s) : ∀ vs : List Nat, RS Y ι n H (wipeM sm vs) (L2.wipe s vs)
  | [] => r
  | v :: vs => by
    have q := r.wipe vs
    refine ⟨by simp [wipeM, L2.wipe, q.1], fun i x e => ?_⟩
    by_cases hv : v = i
    · subst hv
      unfold wipeM at e
      by_cases hl : v < (wipeM sm vs).length
      · rw [List.getElem?_set_self hl] at e
        cases e
      · rw [List.getElem?_eq_none (by simpa using hl)] at e
        cases e
    · unfold wipeM at e
      unfold L2.wipe
      rw [List.getElem?_set_ne hv] at e ⊢
      exact q.2 i x e
/-- a target that stores into the block's own slots alone -/
def tMGo (Y : Lay) (vs : List Nat) (g : MG) : TG := fun x s H Q => ∃ ι sm hm v Qm, HR Y ι hm H ∧ RS Y ι hm.length H sm s ∧ Rep Y ι hm.length H v x ∧ g v sm hm Qm NoE ∧
  ∀ sm' h' ι' H' s', HR Y ι' h' H' → Ext hm.length h'.length ι ι' H H' → RS Y ι' h'.length H' sm' s' → L2.wipe s' vs = L2.wipe s vs → Qm sm' h' → Q s' H'
def tMGso (Y : Lay) (vs : List Nat) (g : MGs) : TGs := fun xs s H Q => ∃ ι sm hm zs Qm, HR Y ι hm H ∧ RS Y ι hm.length H sm s ∧ RepAll Y ι hm.length H zs xs ∧ g zs sm hm Qm NoE ∧
  ∀ sm' h' ι' H' s', HR Y ι' h' H' → Ext hm.length h'.length ι ι' H H' → RS Y ι' h'.length H' sm' s' → L2.wipe s' vs = L2.wipe s vs → Qm sm' h' → Q s' H'
abbrev SGo (Y : Lay) (X : Cx) (vs : List Nat) (g : MG) (tg : Expr) : Prop := PG X tg (tMGo Y vs g)
abbrev SGso (Y : Lay) (X : Cx) (vs : List Nat) (g : MGs) (tgs : List Expr) : Prop := PGs X tgs (tMGso Y vs g)
theorem wipe_set {s : L2.St} {i : Nat} {v : Option V} : ∀ {vs : List Nat}, i ∈ vs → L2.wipe (s.set i v) vs = L2.wipe s vs
  | [], h => nomatch h
  | w :: vs, h => by
    unfold L2.wipe
    by_cases hi : i ∈ vs
    · rw [wipe_set hi]
    · have e : i = w := by
        rcases List.mem_cons.mp h with e | e
        · exact e
        · exact absurd e hi
      subst e
      have key : ∀ us : List Nat, L2.wipe (s.set i v) us = (L2.wipe s us).set i (if i ∈ us then none else v) := by
        intro us
        induction us with
        | nil => simp [L2.wipe]
        | cons u us ih =>
          unfold L2.wipe
          rw [ih]
          by_cases e : u = i
          · subst e
            simp
          · rw [List.set_comm _ _ (Ne.symm e)]
            have : (i ∈ u :: us) = (i ∈ us) := by simp [Ne.symm e]
            simp only [this]
      rw [key vs, List.set_set]
section
variable {Y : Lay} {X : Cx} {vs : List Nat} {g : MG} {gs : MGs} {e : Expr} {es : List Expr} {pos : Pos}
theorem sgo_name {i : Nat} {x : Str} (hN : X.N.Nodup) (hv : i ∈ vs := by decide) (hi : X.N[i]? = some x := by rfl) (hx : Loc X.env.scope x := by first | exact Or.inl rfl | exact Or.inr rfl) (hf : X.fn x = true ∨ X.env.scope.names.lookup x = some .local := by first | exact .inl rfl | exact .inr rfl | assumption) : SGo Y X vs (gN i) (.Name x pos) :=
  psgI (pg_name hN hi hx hf) fun x s H Q ⟨ι, sm, hm, v, Qm, hr, rs, r, q, tq⟩ => tq _ _ _ _ _ hr .refl (rs.set i r) (wipe_set hv) q
theorem sgso_nil : SGso Y X vs gsNil [] := psgsI pgs_nil fun xs s H Q ⟨ι, sm, hm, zs, Qm, hr, rs, r, ⟨e, q⟩, tq⟩ => by
  subst e
  cases r
  exact ⟨rfl, tq _ _ _ _ _ hr .refl rs rfl q⟩
theorem sgso_cons (h1 : SGo Y X vs g e) (h2 : SGso Y X vs gs es) (hs : (assignEach (e :: es) X.env).map (·.2) = assign e X.env :: (assignEach es X.env).map (·.2) := by rfl) : SGso Y X vs (gsCons g gs) (e :: es) := psgsI (pgs_cons h1 h2 hs) fun xs s H Q ⟨ι, sm, hm, zs, Qm, hr, rs, r, ⟨v, vs', ev, q⟩, tq⟩ => by
  subst ev
  cases r with
  | cons r1 r2 =>
    refine ⟨_, _, rfl, ι, sm, hm, v, _, hr, rs, r1, q, fun sm' h' ι' H' s' hr' ex rs' hw q' => ?_⟩
    exact ⟨ι', sm', h', vs', Qm, hr', rs', r2.mono ex hr.live, q', fun sm2 h2 ι2 H2 s2 hr2 ex2 rs2 hw2 q2 => tq _ _ _ _ _ hr2 (ex.trans ex2 hr.live hr'.live) rs2 (hw2.trans hw) q2⟩
theorem sgo_tup {k n : Nat} (hc : X.calm = true) (h : SGso Y X vs gs es) (hn : (assignEach es X.env).length = n := by rfl) (hst : (assignEach es X.env).findIdx? (·.1) = none := by rfl) : SGo Y X vs (gT gs n) (.Tuple es k pos) :=
  psgI (pg_tup hc h hn hst) fun x s H Q ⟨ι, sm, hm, v, Qm, hr, rs, r, ⟨zs, ev, hl, q⟩, tq⟩ => by
    subst ev
    cases r with
    | tup e ra => exact ⟨_, _, rfl, SqT.of e, by rw [← ra.length]; exact hl, ι, sm, hm, zs, Qm, hr, rs, ra, q, tq⟩
end

/-! ### [elt for g in .. if t] -/
def compM (ok : MHp → Prop) (g : MG) (t : MT) (elt : ME) (s0 : MSt) : List MV → List MV → MHp → (List MV → MHp → Prop) → Prop
  | [], acc, h, Q => ok h ∧ Q acc h
  | x :: xs, acc, h, Q => ok h ∧ g x s0 h (fun s1 h1 => t s1 h1 (fun b h2 => if b = true then elt s1 h2 (fun v h3 => acc.length < sizeLine ∧ compM ok g t elt s0 xs (acc ++ [v]) h3 Q) NoE else compM ok g t elt s0 xs acc h2 Q) NoE) NoE
/-- the list: frozen, a cell -/
def mLc (mi : MI) (g : MG) (t : MT) (elt : ME) (vs : List Nat) : ME := fun s h Q E => mi s h (fun xs ok h1 => compM ok g t elt (wipeM s vs) xs [] h1 (fun ys h2 => Q (.fl ys) h2)) E
def mLcC (mi : MI) (g : MG) (t : MT) (elt : ME) (vs : List Nat) : ME := fun s h Q E => mi s h (fun xs ok h1 => compM ok g t elt (wipeM s vs) xs [] h1 (fun ys h2 => Q (.ref h2.length) (h2 ++ [.lst ys]))) E
def tAll : MT := fun _ h Q _ => Q true h
abbrev STs (Y : Lay) (W : WX) (X : Cx) (m : MT) (ifs : List Expr) : Prop := PTs X ifs (tMT Y W m)
section
variable {Y : Lay} {W : WX} {X : Cx} {t : MT}
theorem ptsI {ifs : List Expr} {t t' : TT} (h : PTs X ifs t) (i : ∀ s H Q, t' s H Q → t s H Q) : PTs X ifs t' := ⟨fun pins s σ H Q I q => h.run pins s σ H Q I (i _ _ _ q)⟩
theorem sts_nil : STs Y W X tAll [] := ptsI pts_nil fun s H Q ⟨ι, sm, hm, Qm, Em, hr, rs, q, tq, tx⟩ => tq _ _ _ _ hr .refl q
theorem sts_one {c : Expr} (h : ST Y W X t c) : STs Y W X t [c] := pts_one h
end
/-- the reading of a comprehension out of the mini one -/
theorem lc_read {Y : Lay} {W : WX} {mi : MI} {g : MG} {t : MT} {elt : ME} {vs : List Nat} {K : List MV → MHp → MQ → Prop} {s : L2.St} {H : Hp} {Q : VK}
    (h : tM Y W (fun s h Q E => mi s h (fun xs ok h1 => compM ok g t elt (wipeM s vs) xs [] h1 (fun ys h2 => K ys h2 Q)) E) s H Q)
    (hK : ∀ ι hm H ys zs Qm (D : Addr) H0, HR (Y.hide D) ι hm H → Off Y ι hm.length D → H D = some (.lst zs) → RepAll (Y.hide D) ι hm.length H ys zs → K ys hm Qm → (∀ n ι0, n ≤ hm.length → Ext n hm.length ι0 ι H0 H → H0 D = none → TrQ Y ι0 n H0 Qm Q → Q (.ref D) H)) :
    tLc (tMI Y W mi) (fun x s H Q => ∃ D, tMGo (Y.hide D) vs g x s H Q) (fun s H Q => ∃ D, tMT (Y.hide D) NoW t s H Q) (fun s H Q => ∃ D, tM (Y.hide D) NoW elt s H Q) vs s H Q := by
  obtain ⟨ι, sm, hm, Qm, Em, hr, rs, q, tq, tx⟩ := h
  refine ⟨ι, sm, hm, _, Em, hr, rs, q, tx, fun xs ok h1 ι1 H1 J hr1 e1 jr q1 D hD => ?_⟩
  have hfree : ∀ a, (Y.hid a ∨ a = D) → Y.hid a ∨ H1 a = none := fun a ha => ha.imp id fun z => by rw [z]; exact hD
  have tq1 := tq.mono e1 hr.live hr1.live
  have rs1 := (rs.mono e1 hr.live).wipe vs
  refine ⟨fun i k H' => ∃ ι' hm' acc zs, HR (Y.hide D) ι' hm' H' ∧ H' D = some (.lst zs) ∧ RepAll (Y.hide D) ι' hm'.length H' acc zs ∧ compM ok g t elt (wipeM sm vs) (xs.drop i) acc hm' (fun ys h2 => K ys h2 Qm) ∧ Ext h1.length hm'.length ι1 ι' H1 H' ∧ k = xs.length - i ∧ i ≤ xs.length,
    ⟨_, ι1, h1, [], [], hr1.hideNew hD _, upd_same, .nil, q1, Ext.new hD, rfl, Nat.zero_le _⟩, ?_⟩
  rintro i k H2 ⟨ι2, hm2, acc, zs, hr2, hD2, ra2, q2, e2, rfl, hi2⟩
  cases e : xs[i]? with
  | none =>
    have hd : xs.drop i = [] := List.drop_eq_nil_of_le (List.getElem?_eq_none_iff.mp e)
    rw [hd] at q2
    have off : Off Y ι2 hm2.length D := by
      refine ⟨fun z => ?_, (hr2.hid D (.inr rfl)).2⟩
      obtain ⟨u, hu⟩ := (hr1.hid D z).1
      rw [hD] at hu
      cases hu
    exact .inl ⟨((jr _ hfree ι2 hm2 H2 hr2 e2 q2.1) i).1 e, hK ι2 hm2 H2 acc zs Qm D H1 hr2 off hD2 ra2 q2.2 h1.length ι1 e2.le e2 hD tq1⟩
  | some v =>
    obtain ⟨hlt, ev⟩ := List.getElem?_eq_some_iff.mp e
    have hd : xs.drop i = v :: xs.drop (i + 1) := by rw [List.drop_eq_getElem_cons hlt, ev]
    rw [hd] at q2
    obtain ⟨go, y⟩ := ((jr _ hfree ι2 hm2 H2 hr2 e2 q2.1) i).2 v e
    refine .inr ⟨go, fun H' => ∃ ι' hm' acc zs, HR (Y.hide D) ι' hm' H' ∧ H' D = some (.lst zs) ∧ RepAll (Y.hide D) ι' hm'.length H' acc zs ∧ compM ok g t elt (wipeM sm vs) (xs.drop (i + 1)) acc hm' (fun ys h2 => K ys h2 Qm) ∧ Ext h1.length hm'.length ι1 ι' H1 H',
      fun H' ⟨ι', hm', acc, zs, a1, a2, a3, a4, a5⟩ => ⟨_, by omega, ι', hm', acc, zs, a1, a2, a3, a4, a5, rfl, hlt⟩, fun x H3 yl => ?_⟩
    obtain ⟨hr3, e3, r3⟩ := y x H3 yl
    have e13 := e2.trans e3 hr1.live hr2.live
    have off3 : ∀ i, i < hm2.length → ι2 i ≠ D := (hr2.hid D (.inr rfl)).2
    have hD3 : H3 D = some (.lst zs) := e3.keep D _ hD2 off3
    have rs3 : RS (Y.hide D) ι2 hm2.length H3 (wipeM sm vs) (L2.wipe s vs) := by
      refine ⟨rs1.1, fun j u eu => ?_⟩
      obtain ⟨z, hz, rz⟩ := rs1.2 j u eu
      exact ⟨z, hz, (rz.rehid hfree).mono e13 hr1.live⟩
    refine ⟨D, ι2, wipeM sm vs, hm2, v, _, hr3, rs3, r3, q2.2, fun sm4 h4 ι4 H4 s4 hr4 e4 rs4 hw4 q4 => ?_⟩
    have hw5 : L2.wipe s4 vs = L2.wipe s vs := by
      rw [hw4]
      have key : ∀ us : List Nat, (∀ u ∈ us, u ∈ vs) → L2.wipe (L2.wipe s vs) us = L2.wipe s vs := by
        intro us
        induction us with
        | nil => intro _; rfl
        | cons u us ih =>
          intro hu
          show (L2.wipe (L2.wipe s vs) us).set u none = _
          rw [ih fun w hw => hu w (List.mem_cons_of_mem _ hw)]
          have hmem : u ∈ vs := hu u List.mem_cons_self
          have keep : ∀ ws : List Nat, u ∈ ws → (L2.wipe s ws).set u none = L2.wipe s ws := by
            intro ws
            induction ws with
            | nil => intro h; cases h
            | cons w ws ihw =>
              intro h
              show ((L2.wipe s ws).set w none).set u none = (L2.wipe s ws).set w none
              by_cases ew : w = u
              · subst ew; rw [List.set_set]
              · have hin : u ∈ ws := by
                  rcases List.mem_cons.mp h with e | e
                  · exact absurd e.symm ew
                  · exact e
                rw [List.set_comm _ _ ew, ihw hin]
          exact keep vs hmem
      exact key vs fun _ h => h
    refine ⟨hw5, ?_⟩
    have hD4 : H4 D = some (.lst zs) := e4.keep D _ hD3 off3
    refine ⟨D, ι4, sm4, h4, _, NoE, hr4, rs4, q4, fun b h5 ι5 H5 hr5 e5 q5 => ?_, trX_no⟩
    have off5 : ∀ i, i < h5.length → ι5 i ≠ D := (hr5.hid D (.inr rfl)).2
    have hD5 : H5 D = some (.lst zs) := e5.keep D _ hD4 (hr4.hid D (.inr rfl)).2
    have e15 := (e13.trans e4 hr1.live hr3.live).trans e5 hr1.live hr4.live
    have ra5 : RepAll (Y.hide D) ι5 h5.length H5 acc zs := ((ra2.mono e3 hr2.live).mono e4 hr3.live).mono e5 hr4.live
    cases b with
    | false => exact iteF ⟨ι5, h5, acc, zs, hr5, hD5, ra5, q5, e15⟩
    | true =>
      refine iteT ⟨D, ι5, sm4, h5, _, NoE, hr5, rs4.mono e5 hr4.live, q5, fun w h6 ι6 H6 z hr6 e6 r6 q6 => ?_, trX_no⟩
      have hD6 : H6 D = some (.lst zs) := e6.keep D _ hD5 off5
      have ra6 := ra5.mono e6 hr5.live
      refine ⟨zs, hD6, by rw [← ra6.length]; exact q6.1, ι6, h6, acc ++ [w], zs ++ [z], hr6.updH (show (Y.hide D).hid D from .inr rfl) hD6 rfl, upd_same, ?_, q6.2, (e15.trans e6 hr1.live hr5.live).updF hD⟩
      exact (ra6.append (.cons r6 .nil)).updH (show (Y.hide D).hid D from .inr rfl) hD6 rfl
section
variable {Y : Lay} {W : WX} {X : Cx} {mi : MI} {g : MG} {t : MT} {m : ME} {elt tg iter : Expr} {ifs : List Expr} {scope : Scope} {own : List (Str × Nat)} {pos : Pos}
theorem pgU {X : Cx} {tg : Expr} {t : Addr → TG} (h : ∀ D, PG X tg (t D)) : PG X tg (fun x s H Q => ∃ D, t D x s H Q) := ⟨fun pins s σ H v u Q I r ⟨D, q⟩ => (h D).run pins s σ H v u Q I r q⟩
theorem ptsU {X : Cx} {ifs : List Expr} {t : Addr → TT} (h : ∀ D, PTs X ifs (t D)) : PTs X ifs (fun s H Q => ∃ D, t D s H Q) := ⟨fun pins s σ H Q I ⟨D, q⟩ => (h D).run pins s σ H Q I q⟩
theorem peU {X : Cx} {e : Expr} {t : Addr → TE} (h : ∀ D, PE X e (t D)) : PE X e (fun s H Q => ∃ D, t D s H Q) := ⟨fun pins s σ H Q I ⟨D, q⟩ => (h D).run pins s σ H Q I q⟩
theorem kF {ι : Nat → Addr} {hm : MHp} {H : Hp} {ys : List MV} {zs : List V} {Qm : MQ} {D : Addr} {H0 : Hp} {Q : VK} (hr : HR (Y.hide D) ι hm H) (off : Off Y ι hm.length D) (hD : H D = some (.lst zs)) (ra : RepAll (Y.hide D) ι hm.length H ys zs) (k : Qm (.fl ys) hm)
    (n : Nat) (ι0 : Nat → Addr) (hn : n ≤ hm.length) (e : Ext n hm.length ι0 ι H0 H) (h0 : H0 D = none) (tq : TrQ Y ι0 n H0 Qm Q) : Q (.ref D) H := tq _ hm ι H _ hr.unhide e (.fl hD off ra.unhide) k
end
section
variable {Y : Lay} {ι : Nat → Addr} {n : Nat} {H : Hp} {hm : MHp} {D : Addr}
theorem Off.prom {a : Addr} (o : Off (Y.hide D) ι n a) : Off Y (snocι ι n D) (n + 1) a := by
  refine ⟨fun z => o.1 (.inl z), fun i hi => ?_⟩
  by_cases h : i < n
  · rw [snocι_lt h]; exact o.2 i h
  · obtain rfl : i = n := by omega
    rw [snocι_at]
    exact fun z => o.1 (.inr z.symm)
mutual
/-- a hidden object becomes the next cell -/
theorem Rep.prom : ∀ {v : MV} {x : V}, Rep (Y.hide D) ι n H v x → Rep Y (snocι ι n D) (n + 1) H v x
  | _, _, .non => .non
  | _, _, .bl b => .bl b
  | _, _, .int i => .int i
  | _, _, .str x => .str x
  | _, _, .tup h r => .tup h (RepAll.prom r)
  | _, _, .fl h o r => .fl h o.prom (RepAll.prom r)
  | _, _, .sc h o r => .sc h o.prom (RepAll.prom r)
  | _, _, .fd h o g r r2 => .fd h o.prom g (RepAll.prom r) (RepAll.prom r2)
  | _, _, .fs h o p g r => .fs h o.prom p g (RepAll.prom r)
  | _, _, .fi h o g r => .fi h o.prom g (RepAll.prom r)
  | _, _, .ex0 h o => .ex0 h o.prom
  | _, _, .ex1 h o hd g r => .ex1 h o.prom hd g (RepAll.prom r)
  | _, _, .ref (i := i) h => (snocι_lt (ι := ι) (p := D) h) ▸ .ref (Nat.lt_succ_of_lt h)
theorem RepAll.prom : ∀ {v : List MV} {x : List V}, RepAll (Y.hide D) ι n H v x → RepAll Y (snocι ι n D) (n + 1) H v x
  | _, _, .nil => .nil
  | _, _, .cons h t => .cons (Rep.prom h) (RepAll.prom t)
end
theorem repC_prom {a : Addr} {c : Cell} (r : RepC (Y.hide D) ι n H a c) : RepC Y (snocι ι n D) (n + 1) H a c := by
  cases c with
  | lst xs => obtain ⟨vs, h, r⟩ := r; exact ⟨vs, h, r.prom⟩
  | dct ks xs => obtain ⟨es, h, g, r, r2⟩ := r; exact ⟨es, h, g, r.prom, r2.prom⟩
  | st xs => obtain ⟨ys, es, h, pm, g, r⟩ := r; exact ⟨ys, es, h, pm, g, r.prom⟩
  | ins c xs => obtain ⟨dx, ys, h, g, r⟩ := r; exact ⟨dx, ys, h, g, r.prom⟩
theorem HR.prom {c : Cell} (hr : HR (Y.hide D) ι hm H) (nh : ¬ Y.hid D) (rc : RepC (Y.hide D) ι hm.length H D c) : HR Y (snocι ι hm.length D) (hm ++ [c]) H where
  inj := fun i j hi hj e => by
    rw [List.length_append, List.length_singleton] at hi hj
    have off : ∀ i, i < hm.length → ι i ≠ D := (hr.hid D (.inr rfl)).2
    by_cases h1 : i < hm.length <;> by_cases h2 : j < hm.length
    · rw [snocι_lt h1, snocι_lt h2] at e
      exact hr.inj i j h1 h2 e
    · obtain rfl : j = hm.length := by omega
      rw [snocι_lt h1, snocι_at] at e
      exact absurd e (off i h1)
    · obtain rfl : i = hm.length := by omega
      rw [snocι_lt h2, snocι_at] at e
      exact absurd e.symm (off j h2)
    · omega
  cell := fun i c' e => by
    rw [List.length_append, List.length_singleton]
    by_cases h : i < hm.length
    · rw [List.getElem?_append_left h] at e
      rw [snocι_lt h]
      exact repC_prom (hr.cell i c' e)
    · have hi : i = hm.length := by
        have := (List.getElem?_eq_some_iff.mp e).1
        rw [List.length_append, List.length_singleton] at this
        omega
      subst hi
      rw [List.getElem?_append_right (Nat.le_refl _), Nat.sub_self] at e
      simp only [List.getElem?_cons_zero, Option.some.injEq] at e
      subst e
      rw [snocι_at]
      exact repC_prom rc
  hid := fun a ha => by
    refine ⟨(hr.hid a (.inl ha)).1, fun i hi => ?_⟩
    rw [List.length_append, List.length_singleton] at hi
    by_cases h : i < hm.length
    · rw [snocι_lt h]; exact (hr.hid a (.inl ha)).2 i h
    · obtain rfl : i = hm.length := by omega
      rw [snocι_at]
      exact fun z => nh (z ▸ ha)
theorem Ext.prom {n : Nat} {ι0 : Nat → Addr} {H0 : Hp} {c : Cell} (hn : n ≤ hm.length) (e : Ext n hm.length ι0 ι H0 H) (h0 : H0 D = none) : Ext n (hm ++ [c]).length ι0 (snocι ι hm.length D) H0 H := by
  rw [List.length_append, List.length_singleton]
  refine ⟨Nat.le_succ_of_le hn, fun i hi => by rw [snocι_lt (Nat.lt_of_lt_of_le hi hn)]; exact e.same i hi, e.keep, fun i h1 h2 => ?_⟩
  by_cases hi : i < hm.length
  · rw [snocι_lt hi]; exact e.fresh i h1 hi
  · obtain rfl : i = hm.length := by omega
    rw [snocι_at]; exact h0
theorem kC {ys : List MV} {zs : List V} {Qm : MQ} {H0 : Hp} {Q : VK} (hr : HR (Y.hide D) ι hm H) (off : Off Y ι hm.length D) (hD : H D = some (.lst zs)) (ra : RepAll (Y.hide D) ι hm.length H ys zs) (k : Qm (.ref hm.length) (hm ++ [.lst ys]))
    (n : Nat) (ι0 : Nat → Addr) (hn : n ≤ hm.length) (e : Ext n hm.length ι0 ι H0 H) (h0 : H0 D = none) (tq : TrQ Y ι0 n H0 Qm Q) : Q (.ref D) H := by
  have z := tq _ _ _ H (.ref (snocι ι hm.length D hm.length)) (hr.prom (c := .lst ys) off.1 ⟨zs, hD, ra⟩) (e.prom hn h0) (.ref (by simp)) k
  rwa [snocι_at] at z
end
end Mini
/-! Mini, part 7: defs and calls. -/
namespace Mini
open PySem PySem.Spec PyProof.Rows L2

/-! ### what a value leads to -/
mutual
/-- no cell from n on is reached -/
def MV.lo (n : Nat) : MV → Bool
  | .ref i => decide (i < n)
  | .tup xs => loAll n xs
  | .fl xs => loAll n xs
  | .sc xs => loAll n xs
  | .fd ks vs => loAll n ks && loAll n vs
  | .fs xs => loAll n xs
  | .fi _ vs => loAll n vs
  | .ex _ vs => loAll n vs
  | _ => true
def loAll (n : Nat) : List MV → Bool
  | [] => true
  | x :: xs => x.lo n && loAll n xs
end
def Cell.lo (n : Nat) : Cell → Bool
  | .lst xs => loAll n xs
  | .dct ks vs => loAll n ks && loAll n vs
  | .st xs => loAll n xs
  | .ins _ vs => loAll n vs
/-- what was there ahead leads to nothing new -/
def oldOk (n : Nat) (h : MHp) : Bool := (h.take n).all fun c => c.lo n
/-- the objects from n on as trees -/
def frz (n : Nat) (h : MHp) : Nat → MV → MV
  | 0, v => v
  | k + 1, .tup xs => .tup (xs.map (frz n h k))
  | k + 1, .fl xs => .fl (xs.map (frz n h k))
  | k + 1, .ref i => if i < n then .ref i else match h[i]? with
    | some (.lst xs) => .fl (xs.map (frz n h k))
    | some (.dct ks vs) => .fd ks (vs.map (frz n h k))
    | some (.ins c xs) => .fi c (xs.map (frz n h k))
    | _ => .ref i
  | _, v => v
theorem loAll_iff {n : Nat} : ∀ {xs : List MV}, loAll n xs = true ↔ ∀ x ∈ xs, x.lo n = true
  | [] => by simp [loAll]
  | x :: xs => by simp [loAll, loAll_iff (xs := xs)]

section
variable {Y : Lay} {ι : Nat → Addr} {n n' : Nat} {H : Hp} {hm : MHp}
theorem Off.drop {a : Addr} (h : n ≤ n') (o : Off Y ι n' a) : Off Y ι n a := ⟨o.1, fun i hi => o.2 i (Nat.lt_of_lt_of_le hi h)⟩
theorem loAll_perm {xs ys : List MV} (p : ys.Perm xs) (h : loAll n xs = true) : loAll n ys = true := loAll_iff.mpr fun x hx => loAll_iff.mp h x (p.mem_iff.mp hx)
mutual
theorem Rep.cut (h : n ≤ n') : ∀ {v : MV} {x : V}, Rep Y ι n' H v x → v.lo n = true → Rep Y ι n H v x
  | _, _, .non, _ => .non
  | _, _, .bl b, _ => .bl b
  | _, _, .int i, _ => .int i
  | _, _, .str x, _ => .str x
  | _, _, .tup e r, l => .tup e (RepAll.cut h r (by simpa [MV.lo] using l))
  | _, _, .fl e o r, l => .fl e (o.drop h) (RepAll.cut h r (by simpa [MV.lo] using l))
  | _, _, .sc e o r, l => .sc e (o.drop h) (RepAll.cut h r (by simpa [MV.lo] using l))
  | _, _, .fd e o g r r2, l => by
    simp only [MV.lo, Bool.and_eq_true] at l
    exact .fd e (o.drop h) g (RepAll.cut h r l.1) (RepAll.cut h r2 l.2)
  | _, _, .fs e o p g r, l => .fs e (o.drop h) p g (RepAll.cut h r (loAll_perm p (by simpa [MV.lo] using l)))
  | _, _, .fi e o g r, l => .fi e (o.drop h) g (RepAll.cut h r (by simpa [MV.lo] using l))
  | _, _, .ex0 e o, _ => .ex0 e (o.drop h)
  | _, _, .ex1 e o hd g r, l => .ex1 e (o.drop h) hd g (RepAll.cut h r (by simpa [MV.lo] using l))
  | _, _, .ref hi, l => .ref (by simpa [MV.lo] using l)
theorem RepAll.cut (h : n ≤ n') : ∀ {v : List MV} {x : List V}, RepAll Y ι n' H v x → loAll n v = true → RepAll Y ι n H v x
  | _, _, .nil, _ => .nil
  | _, _, .cons e t, l => by
    simp only [loAll, Bool.and_eq_true] at l
    exact .cons (Rep.cut h e l.1) (RepAll.cut h t l.2)
end
theorem repC_drop (h : n ≤ n') {a : Addr} {c : Cell} (r : RepC Y ι n' H a c) (l : c.lo n = true) : RepC Y ι n H a c := by
  cases c with
  | lst xs => obtain ⟨vs, e, r⟩ := r; exact ⟨vs, e, r.cut h l⟩
  | dct ks xs =>
    obtain ⟨es, e, g, r, r2⟩ := r
    simp only [Cell.lo, Bool.and_eq_true] at l
    exact ⟨es, e, g, r.cut h l.1, r2.cut h l.2⟩
  | st xs => obtain ⟨ys, es, e, pm, g, r⟩ := r; exact ⟨ys, es, e, pm, g, r.cut h (loAll_perm pm l)⟩
  | ins c xs => obtain ⟨dx, ys, e, g, r⟩ := r; exact ⟨dx, ys, e, g, r.cut h l⟩
theorem HR.drop (hr : HR Y ι hm H) (hn : n ≤ hm.length) (o : oldOk n hm = true) : HR Y ι (hm.take n) H where
  inj := fun i j hi hj e => by
    rw [List.length_take] at hi hj
    exact hr.inj i j (by omega) (by omega) e
  cell := fun i c e => by
    have hl : (hm.take n).length = n := by rw [List.length_take]; omega
    rw [hl]
    have hi : i < n := by have := (List.getElem?_eq_some_iff.mp e).1; omega
    have hc : hm[i]? = some c := by rw [List.getElem?_take_of_lt hi] at e; exact e
    exact repC_drop hn (hr.cell i c hc) (List.all_eq_true.mp o c (List.mem_of_getElem? e))
  hid := fun a ha => ⟨(hr.hid a ha).1, fun i hi => (hr.hid a ha).2 i (by rw [List.length_take] at hi; omega)⟩
theorem frz_rep (hr : HR Y ι hm H) (hn : n ≤ hm.length) : ∀ (k : Nat) {v : MV} {x : V}, Rep Y ι hm.length H v x → (frz n hm k v).lo n = true → Rep Y ι n H (frz n hm k v) x
  | 0, v, x, r, l => r.cut hn l
  | k + 1, v, x, r, l => by
    have all : ∀ {xs : List MV} {vs : List V}, RepAll Y ι hm.length H xs vs → loAll n (xs.map (frz n hm k)) = true → RepAll Y ι n H (xs.map (frz n hm k)) vs := by
      intro xs
      induction xs with
      | nil => intro vs r _; cases r; exact .nil
      | cons x xs ih =>
        intro vs r l
        cases r with
        | cons r1 r2 =>
          simp only [List.map_cons, loAll, Bool.and_eq_true] at l ⊢
          exact .cons (frz_rep hr hn k r1 l.1) (ih r2 l.2)
    cases r with
    | tup e r => exact .tup e (all r (by simpa [frz, MV.lo] using l))
    | fl e o r => exact .fl e (o.drop hn) (all r (by simpa [frz, MV.lo] using l))
    | @ref i hi =>
      by_cases hin : i < n
      · simp only [frz, if_pos hin] at l ⊢
        exact .ref hin
      · have off : Off Y ι n (ι i) := ⟨fun z => (hr.hid _ z).2 i hi rfl, fun j hj e => by
          have := hr.inj j i (by omega) hi e
          omega⟩
        cases e : hm[i]? with
        | none =>
          simp only [frz, if_neg hin, e] at l
          simp [MV.lo] at l
          exact absurd l hin
        | some c =>
          have rc := hr.cell i c e
          cases c with
          | lst xs =>
            obtain ⟨vs, h1, r⟩ := rc
            simp only [frz, if_neg hin, e] at l ⊢
            exact .fl h1 off (all r (by simpa [MV.lo] using l))
          | dct ks xs =>
            obtain ⟨es, h1, g, r, r2⟩ := rc
            simp only [frz, if_neg hin, e] at l ⊢
            simp only [MV.lo, Bool.and_eq_true] at l
            exact .fd h1 off g (r.cut hn l.1) (all r2 l.2)
          | st xs =>
            simp only [frz, if_neg hin, e] at l
            simp [MV.lo] at l
            exact absurd l hin
          | ins c xs =>
            obtain ⟨dx, ys, h1, g, r⟩ := rc
            simp only [frz, if_neg hin, e] at l ⊢
            exact .fi h1 off g (all r (by simpa [MV.lo] using l))
    | _ => exact Rep.cut hn (by constructor <;> assumption) l
end

/-! ### what a def gives back -/
abbrev Sem := List MV → MHp → MQ → MQ → Prop
/-- a wish carried over the end of a def: n cells at its start -/
abbrev Md := Nat → MQ → MQ
/-- as it is -/
def mdK : Md := fun _ Q => Q
/-- new objects as trees, the new cells gone -/
def mdF : Md := fun n Q v h => n ≤ h.length ∧ oldOk n h = true ∧ (frz n h 8 v).lo n = true ∧ Q (frz n h 8 v) (h.take n)
/-- the value alone, new cells gone: no new object is in it -/
def mdD : Md := fun n Q v h => n ≤ h.length ∧ oldOk n h = true ∧ v.lo n = true ∧ Q v (h.take n)
/-- one new list, as the next cell; its items lead to nothing new -/
def mdC : Md := fun n Q v h => ∃ i xs, v = .ref i ∧ n ≤ i ∧ h[i]? = some (.lst xs) ∧ oldOk n h = true ∧ loAll n xs = true ∧ Q (.ref n) (h.take n ++ [.lst xs])
section
variable {Y : Lay} {ι : Nat → Addr} {n n' i : Nat} {H : Hp} {hm : MHp}
theorem Off.cutH {a : Addr} (h : n ≤ n') (hi : i < n') (o : Off Y ι n' a) : Off (Y.hide (ι i)) ι n a := ⟨fun z => z.elim o.1 fun e => o.2 i hi e.symm, fun j hj => o.2 j (Nat.lt_of_lt_of_le hj h)⟩
mutual
/-- the cells from n on go, the one at i is hidden -/
theorem Rep.cutH (h : n ≤ n') (hi : i < n') : ∀ {v : MV} {x : V}, Rep Y ι n' H v x → v.lo n = true → Rep (Y.hide (ι i)) ι n H v x
  | _, _, .non, _ => .non
  | _, _, .bl b, _ => .bl b
  | _, _, .int i, _ => .int i
  | _, _, .str x, _ => .str x
  | _, _, .tup e r, l => .tup e (RepAll.cutH h hi r (by simpa [MV.lo] using l))
  | _, _, .fl e o r, l => .fl e (o.cutH h hi) (RepAll.cutH h hi r (by simpa [MV.lo] using l))
  | _, _, .sc e o r, l => .sc e (o.cutH h hi) (RepAll.cutH h hi r (by simpa [MV.lo] using l))
  | _, _, .fd e o g r r2, l => by
    simp only [MV.lo, Bool.and_eq_true] at l
    exact .fd e (o.cutH h hi) g (RepAll.cutH h hi r l.1) (RepAll.cutH h hi r2 l.2)
  | _, _, .fs e o p g r, l => .fs e (o.cutH h hi) p g (RepAll.cutH h hi r (loAll_perm p (by simpa [MV.lo] using l)))
  | _, _, .fi e o g r, l => .fi e (o.cutH h hi) g (RepAll.cutH h hi r (by simpa [MV.lo] using l))
  | _, _, .ex0 e o, _ => .ex0 e (o.cutH h hi)
  | _, _, .ex1 e o hd g r, l => .ex1 e (o.cutH h hi) hd g (RepAll.cutH h hi r (by simpa [MV.lo] using l))
  | _, _, .ref _, l => .ref (by simpa [MV.lo] using l)
theorem RepAll.cutH (h : n ≤ n') (hi : i < n') : ∀ {v : List MV} {x : List V}, RepAll Y ι n' H v x → loAll n v = true → RepAll (Y.hide (ι i)) ι n H v x
  | _, _, .nil, _ => .nil
  | _, _, .cons e t, l => by
    simp only [loAll, Bool.and_eq_true] at l
    exact .cons (Rep.cutH h hi e l.1) (RepAll.cutH h hi t l.2)
end
theorem repC_cutH (h : n ≤ n') (hi : i < n') {a : Addr} {c : Cell} (r : RepC Y ι n' H a c) (l : c.lo n = true) : RepC (Y.hide (ι i)) ι n H a c := by
  cases c with
  | lst xs => obtain ⟨vs, e, r⟩ := r; exact ⟨vs, e, r.cutH h hi l⟩
  | dct ks xs =>
    obtain ⟨es, e, g, r, r2⟩ := r
    simp only [Cell.lo, Bool.and_eq_true] at l
    exact ⟨es, e, g, r.cutH h hi l.1, r2.cutH h hi l.2⟩
  | st xs => obtain ⟨ys, es, e, pm, g, r⟩ := r; exact ⟨ys, es, e, pm, g, r.cutH h hi (loAll_perm pm l)⟩
  | ins c xs => obtain ⟨dx, ys, e, g, r⟩ := r; exact ⟨dx, ys, e, g, r.cutH h hi l⟩
theorem HR.cutH (hr : HR Y ι hm H) (hn : n ≤ i) (hi : i < hm.length) (o : oldOk n hm = true) : HR (Y.hide (ι i)) ι (hm.take n) H where
  inj := (hr.drop (Nat.le_of_lt (Nat.lt_of_le_of_lt hn hi)) o).inj
  cell := fun j c e => by
    have hl : (hm.take n).length = n := by rw [List.length_take]; omega
    rw [hl]
    have hj : j < n := by have := (List.getElem?_eq_some_iff.mp e).1; omega
    have hc : hm[j]? = some c := by rw [List.getElem?_take_of_lt hj] at e; exact e
    exact repC_cutH (by omega) hi (hr.cell j c hc) (List.all_eq_true.mp o c (List.mem_of_getElem? e))
  hid := fun a ha => by
    rcases ha with ha | rfl
    · exact ⟨(hr.hid a ha).1, fun j hj => (hr.hid a ha).2 j (by rw [List.length_take] at hj; omega)⟩
    · obtain ⟨u, hu, _⟩ := hr.live i hi
      exact ⟨⟨u, hu⟩, fun j hj e => by
        rw [List.length_take] at hj
        have := hr.inj j i (by omega) hi e
        omega⟩
end
section
variable {Y : Lay} {ι ι' : Nat → Addr} {n : Nat} {H H' : Hp} {h : MHp}
theorem Ext.take (e : Ext n h.length ι ι' H H') : Ext n (h.take n).length ι ι' H H' := by
  have hl : (h.take n).length = n := by have := e.le; rw [List.length_take]; omega
  rw [hl]
  exact ⟨Nat.le_refl _, e.same, e.keep, fun i h1 h2 => absurd h1 (by omega)⟩
/-- a mode carries over -/
def MdOk (md : Md) : Prop := ∀ (Y : Lay) (ι ι' : Nat → Addr) (n : Nat) (H H' : Hp) (h : MHp) (Q : MQ) (v : MV) (x : V), HR Y ι' h H' → Ext n h.length ι ι' H H' → Rep Y ι' h.length H' v x → md n Q v h →
  ∃ ι2 h2 v2, HR Y ι2 h2 H' ∧ Ext n h2.length ι ι2 H H' ∧ Rep Y ι2 h2.length H' v2 x ∧ Q v2 h2
theorem mdK_ok : MdOk mdK := fun Y ι ι' n H H' h Q v x hr e r q => ⟨ι', h, v, hr, e, r, q⟩
theorem mdF_ok : MdOk mdF := fun Y ι ι' n H H' h Q v x hr e r ⟨hn, ho, hl, q⟩ => ⟨ι', h.take n, _, hr.drop hn ho, e.take, by
  have hl' : (h.take n).length = n := by rw [List.length_take]; omega
  rw [hl']
  exact frz_rep hr hn 8 r hl, q⟩
theorem mdC_ok : MdOk mdC := fun Y ι ι' n H H' h Q v x hr e r ⟨i, xs, ev, hn, hc, ho, hl, q⟩ => by
  subst ev
  cases r with
  | ref hi =>
    have hle := e.le
    obtain ⟨vs, hv, ra⟩ := hr.cell i _ hc
    have hl' : (h.take n).length = n := by rw [List.length_take]; omega
    have hr2 := hr.cutH hn hi ho
    have nh : ¬ Y.hid (ι' i) := fun z => (hr.hid _ z).2 i hi rfl
    have hr3 := hr2.prom (c := .lst xs) nh ⟨vs, hv, by rw [hl']; exact ra.cutH hle hi hl⟩
    refine ⟨_, _, _, hr3, ?_, ?_, q⟩
    · have e2 := e.take
      rw [hl'] at e2
      refine Ext.prom (hm := h.take n) (by rw [hl']; exact Nat.le_refl _) (by rw [hl']; exact e2) (e.fresh i hn hi)
    · have z := Rep.ref (Y := Y) (ι := snocι ι' n (ι' i)) (n := (h.take n ++ [Cell.lst xs]).length) (H := H') (i := n) (by rw [List.length_append, hl']; exact Nat.lt_succ_self _)
      rw [snocι_at] at z
      rw [hl']
      exact z
theorem mdD_ok : MdOk mdD := fun Y ι ι' n H H' h Q v x hr e r ⟨hn, ho, hl, q⟩ => ⟨ι', h.take n, _, hr.drop hn ho, e.take, by
  have hl' : (h.take n).length = n := by rw [List.length_take]; omega
  rw [hl']
  exact r.cut hn hl, q⟩
/-- .. and one for exceptions -/
def MxOk (md : Md) : Prop := ∀ (Y : Lay) (ι ι' : Nat → Addr) (n : Nat) (H H' : Hp) (h : MHp) (Q : MQ) (v : MV) (c : Value) (d : Option Addr), HR Y ι' h H' → Ext n h.length ι ι' H H' → RepX Y ι' h.length H' v c d → md n Q v h →
  ∃ ι2 h2 v2, HR Y ι2 h2 H' ∧ Ext n h2.length ι ι2 H H' ∧ RepX Y ι2 h2.length H' v2 c d ∧ Q v2 h2
theorem mdK_okx : MxOk mdK := fun Y ι ι' n H H' h Q v c d hr e r q => ⟨ι', h, v, hr, e, r, q⟩
theorem mdD_okx : MxOk mdD := fun Y ι ι' n H H' h Q v c d hr e r ⟨hn, ho, hl, q⟩ => ⟨ι', h.take n, _, hr.drop hn ho, e.take, by
  have hl' : (h.take n).length = n := by rw [List.length_take]; omega
  rw [hl']
  obtain ⟨cc, xs, rfl, ec, hd⟩ := r
  refine ⟨cc, xs, rfl, ec, hd.imp id fun ⟨dd, fs, ys, e1, e2, e3, e4⟩ => ⟨dd, fs, ys, e1, e2, e3, e4.cut hn (by simpa [MV.lo] using hl)⟩⟩, q⟩
end

def startM (ns : Nat) (vs : List MV) : MSt := vs.map some ++ List.replicate (ns - vs.length) none
/-- a def: np parameters, ns names, what becomes of its value and of an exception -/
def mFn (md mx : Md) (np ns : Nat) (m : MS) : Sem := fun vs h Q E => vs.length = np ∧ m (startM ns vs) h { nx := fun _ h' => md h.length Q .non h', rt := md h.length Q, ex := fun e _ h' => mx h.length E e h' }

structure RoomG (k : Nat) (A : Around) : Prop where
  rm : Room k A
  gd : A.guards = some []
theorem RoomG.mono {j k : Nat} {A : Around} (r : RoomG k A) (h : j ≤ k) : RoomG j A := ⟨r.rm.mono h, r.gd⟩
theorem RoomG.deeper {k : Nat} {A : Around} (r : RoomG (k + 1) A) (env : Env) : RoomG k (A.deeper env) := ⟨r.rm.deeper env, r.gd⟩
/-- the wish of an exception that leaves a def -/
def TrK (Y : Lay) (ι : Nat → Addr) (n : Nat) (H : Hp) (Em : MQ) (E : XK) : Prop :=
  ∀ e h' ι' H' cls d, HR Y ι' h' H' → Ext n h'.length ι ι' H H' → RepX Y ι' h'.length H' e cls d → Em e h' → E cls d H'
/-- a def of the text does what sem says -/
structure FnG (Y : Lay) (P : Program) (w : World) (K : PySem.W.Frag) (mg : Str → Option Value) (base : Heap) (k : Nat) (f : Addr) (fd : FuncData) (ps : List Str) (sem : Sem) : Prop where
  len : ∀ vs h Q E, sem vs h Q E → vs.length = ps.length
  run : ∀ (hid : Addr → Prop) (A : Around) (outer : List Env) (s : Shared) (H : Hp) (args : Args) (us : List Value) (vs : List V) (Q : VK) (E : XK) (ι : Nat → Addr) (hm : MHp) (ws : List MV) (Qm Em : MQ), RoomG k A → Env0 P w K mg base A outer s H → BindsTo s fd args (ps.zip us) → Vals vs us →
    HR (Y.re hid) ι hm H → RepAll (Y.re hid) ι hm.length H ws vs → sem ws hm Qm Em → TrQ (Y.re hid) ι hm.length H Qm Q → TrK (Y.re hid) ι hm.length H Em E →
    codeAny (model P w) A (.call (.ref f) args) (CR (CX P w) outer P w H s Q E) s
theorem FnG.mono {Y : Lay} {P : Program} {w : World} {K : PySem.W.Frag} {mg : Str → Option Value} {base : Heap} {j k : Nat} {f : Addr} {fd : FuncData} {ps : List Str} {sem : Sem} (F : FnG Y P w K mg base j f fd ps sem) (h : j ≤ k) : FnG Y P w K mg base k f fd ps sem :=
  ⟨F.len, fun hid A outer s H args us vs Q E ι hm ws Qm Em hr => F.run hid A outer s H args us vs Q E ι hm ws Qm Em (hr.mono h)⟩
theorem FnG.imp {Y : Lay} {P : Program} {w : World} {K : PySem.W.Frag} {mg : Str → Option Value} {base : Heap} {k : Nat} {f : Addr} {fd : FuncData} {ps : List Str} {sem sem' : Sem} (F : FnG Y P w K mg base k f fd ps sem) (i : ∀ vs h Q E, sem' vs h Q E → sem vs h Q E) : FnG Y P w K mg base k f fd ps sem' :=
  ⟨fun vs h Q E q => F.len vs h Q E (i _ _ _ _ q), fun hid A outer s H args us vs Q E ι hm ws Qm Em hr e0 hb r h1 h2 q => F.run hid A outer s H args us vs Q E ι hm ws Qm Em hr e0 hb r h1 h2 (i _ _ _ _ q)⟩

theorem rs_start {Y : Lay} {ι : Nat → Addr} {n : Nat} {H : Hp} {ws : List MV} {vs : List V} {N : List Str} {ns : Nat} (hN : N.length = ns) (r : RepAll Y ι n H ws vs) : RS Y ι n H (startM ns ws) (L2.start N vs) := by
  unfold startM L2.start
  refine ⟨by simp [r.length, hN], fun i v e => ?_⟩
  by_cases hi : i < ws.length
  · rw [List.getElem?_append_left (by simpa using hi), List.getElem?_map] at e
    cases e1 : ws[i]? with
    | none => rw [e1] at e; cases e
    | some a =>
      rw [e1] at e
      cases e
      obtain ⟨b, hb, rb⟩ := r.get e1
      refine ⟨b, ?_, rb⟩
      rw [List.getElem?_append_left (by simpa [← r.length] using hi), List.getElem?_map, hb]
      rfl
  · rw [List.getElem?_append_right (by simpa using hi), List.getElem?_replicate] at e
    split at e <;> cases e

theorem fn_ofM {Y : Lay} {P : Program} {w : World} {K : PySem.W.Frag} {mg : Str → Option Value} {base : Heap} {k : Nat} {f : Addr} {name qual : Str} {params : Arguments} {body : List Stmt} {scope : Scope} {dV kV doc pm cdv ct oc : Value} {an od : Option Addr}
    {osl : Array (Option Value)} {N ps : List Str} {np ns : Nat} {m : MS} {md mx : Md} (lk : K.lookup f = some ⟨oc, od, .func (PySem.W.fnOf name qual params body scope dV kV doc pm an cdv ct), osl⟩) (hcd : PySem.W.codeIn K cdv qual = true) (S : FnScope N ps scope)
    (hnp : ps.length = np) (hns : N.length = ns) (hmd : MdOk md) (hmx : MxOk mx)
    (hbody : ∀ (hid : Addr → Prop) (A : Around) (outer : List Env) (s : Shared) (H : Hp) (E : XK), RoomG k (A.deeper (envOfC qual scope s.heap.objs.size f cdv)) →
      SSs (Y.re hid) (fun c d _ H' => E c d H') (cxOf (CX P w) P w K mg base N qual scope f cdv A outer s H E) m body) :
    FnG Y P w K mg base (k + 1) f (PySem.W.fnOf name qual params body scope dV kV doc pm an cdv ct) ps (mFn md mx np ns m) := by
  refine ⟨fun vs h Q E q => q.1.trans hnp.symm, fun hid A outer s H args us vs Q E ι hm ws Qm Em hr e0 hb r hR hA hsem tq tx => ?_⟩
  have hl : vs.length = ps.length := by rw [← hA.length, hsem.1, hnp]
  have KX : K.In s.heap := e0.mod.kin.keeps fun b o e => (e0.bs b o e).1
  have lim : s.heap.NoLimit := e0.mod.nolimit.keeps fun b o e => (e0.bs b o e).1
  have hkind : ∀ y ∈ ps.zip us, scope.names.lookup y.1 = some .local ∨ (scope.names.lookup y.1 = some .cell ∧ ((cellsFrom (s.heap.objs.size + 1) scope.names []).lookup y.1).isSome = true) := fun ⟨n, v⟩ hy => by
    rcases S.par n (List.of_mem_zip hy).1 with q | q
    · exact .inl q
    · exact .inr ⟨q, PySem.W.cellsFrom_some _ _ _ (.inl q)⟩
  refine codeAny_call_function hr.rm.depth (KX _ _ lk) rfl S.co S.gen rfl (PySem.W.codeRec_of KX hcd) (hb _ _ _ _ ?_)
  refine wpAny_newFunctionEnv_cells S.kind hkind fun env he s1 x => ?_
  subst he
  refine ⟨lim.keeps x.toInCall.keep, codeAny_func ?_⟩
  have I : Inv (cxOf (CX P w) P w K mg base N qual scope f cdv A outer s H E) [] (L2.start N vs) H s1 := inv_start S hr.rm.hd e0 hl r x
  have tmd : TrQ (Y.re hid) ι hm.length H (md hm.length Qm) Q := fun v h' ι' H' x hr' ex rv q => by
    obtain ⟨ι2, h2, v2, a1, a2, a3, a4⟩ := hmd _ ι ι' hm.length H H' h' Qm v x hr' ex rv q
    exact tq v2 h2 ι2 H' x a1 a2 a3 a4
  refine wpAny_mono ((hbody hid A outer s H E (hr.deeper _)).run [] s1 (L2.start N vs) H { nx := fun _ H' => Q .non H', rt := Q } I
    ⟨ι, startM ns ws, hm, _, hR, rs_start hns hA, hsem.2, fun sm' h' ι' H' s' hr' ex rs q => tmd .non h' ι' H' .non hr' ex .non q, tmd, fun _ _ _ _ _ _ _ _ z => z.elim, fun _ _ _ _ _ _ _ _ z => z.elim,
      fun e sm' h' ι' H' s' c d hr' ex rs rx q => by
        obtain ⟨ι2, h2, v2, a1, a2, a3, a4⟩ := hmx _ ι ι' hm.length H H' h' Em e c d hr' ex rx q
        exact tx v2 h2 ι2 H' c d a1 a2 a3 a4⟩)
    (fun fl s' hs => ?_) fun e s' hs => hs
  have fin : ∀ {σ' : L2.St} {H' : Hp} {v : V} {u : Value}, Inv (cxOf (CX P w) P w K mg base N qual scope f cdv A outer s H E) [] σ' H' s' → RelV v u → Q v H' → CE outer P w H s Q u s' :=
    fun {σ' H' v u} J rv q => ⟨v, H', J.os, J.bare, J.base, J.hok, rv, q⟩
  cases fl with
  | ret u =>
    obtain ⟨v, σ', H', J, rv, q⟩ := hs
    exact fin J rv q
  | next =>
    obtain ⟨σ', H', J, q⟩ := hs
    exact fin (v := V.non) (u := Value.none) J rfl q
  | brk =>
    obtain ⟨_, _, _, q⟩ := hs
    exact False.elim q
  | cont =>
    obtain ⟨_, _, _, q⟩ := hs
    exact False.elim q

/-! ### calls -/
/-- f(e, ..), f a def of the text -/
def mCall (sem : Sem) (a : MA) : ME := fun s h Q E => a s h (fun vs h1 => sem vs h1 Q E) E
section
variable {X : Cx} {W : WX} {Y Y0 : Lay} {k : Nat} {f : Addr} {fd : FuncData} {ps : List Str} {sem : Sem} {a : MA} {x : Str} {p pos : Pos} {e : Expr} {es : List Expr}
theorem run_fnM {pins : List (Addr × Obj)} {σ : L2.St} {H : Hp} {s : Shared} {Q : VK} {us : List Value} {vs : List V} {ι : Nat → Addr} {hm : MHp} {ws : List MV} {Qm Em : MQ} (hy : Y = Y0.re Y.hid) (F : FnG Y0 X.prog X.w X.K X.mg X.base k f fd ps sem) (hr : RoomG k X.A) (tk : Takes X W) (hb : Binds X.K fd ps [])
    (I : Inv X pins σ H s) (r : Vals vs us) (hR : HR Y ι hm H) (hA : RepAll Y ι hm.length H ws vs) (h : sem ws hm Qm Em) (tq : TrQ Y ι hm.length H Qm Q) (tx : TrX Y ι hm.length H σ Em W) : wpAny (model X.prog X.w) X.A (call (.ref f) us) (EP X pins σ Q) X.xe s := by
  have hl : (us ++ []).length = ps.length := by rw [List.append_nil, ← r.length, ← hA.length]; exact F.len _ _ _ _ h
  have hb' := hb s us I.kIn hl
  rw [List.append_nil] at hb'
  refine wpAny_call (codeAny_mono (F.run Y.hid X.A X.stack s H ⟨us, []⟩ us vs Q (fun c d H' => W c d σ H') ι hm ws Qm Em hr I.env0 hb' r (hy ▸ hR) (hy ▸ hA) h (hy ▸ tq) (hy ▸ fun e h' ι' H' c d a1 a2 a3 a4 => tx e h' ι' H' c d a1 a2 a3 a4)) fun r s' hq => ?_)
  cases r with
  | error e => exact tk _ _ (XE.of_call I (fun _ _ _ w => w) hq)
  | ok fl =>
    cases fl with
    | ret u => exact I.after hq
    | next => exact False.elim hq
    | brk => exact False.elim hq
    | cont => exact False.elim hq
theorem sn_call (F : FnG Y0 X.prog X.w X.K X.mg X.base k f fd ps sem) (hr : RoomG k X.A) (tk : Takes X W) (hg : Gl X x) (hm : X.mg x = some (.ref f)) (hk : PySem.W.keepIn X.K (.ref f) = true) (hb : Binds X.K fd ps []) (ha : SA Y W X a (e :: es)) (hy : Y = Y0.re Y.hid := by rfl)
    (hdb : (x == ("__debug__" : Str)) = false := by decide) (he : starEach (e :: es) X.env = (false, eval e X.env) :: starEach es X.env := by rfl) (hpl : (backTo pos (starEach es X.env)).any (·.1) = false := by rfl) :
    SE Y W X (mCall sem a) (.Call (.Name x p) (e :: es) [] pos) := by
  refine ⟨fun pins s σ H Q I h => ?_⟩
  obtain ⟨ι, sm, hm', Qm, Em, hR, rs, q, tq, tx⟩ := h
  refine wpAny_Call_Name_kw (ld_glob I hg hm ?_ hdb)
  refine PySem.W.callWith_K (h₀ := X.base) I.ok.mod.kin hk (thn (ha.run pos pins s σ H (fun vs H1 => ∃ ι1 h1 ws, HR Y ι1 h1 H1 ∧ Ext hm'.length h1.length ι ι1 H H1 ∧ RepAll Y ι1 h1.length H1 ws vs ∧ sem ws h1 Qm Em) I
    ⟨ι, sm, hm', _, Em, hR, rs, q, fun vs h1 ι1 H1 xs hr1 e1 r1 q1 => ⟨ι1, h1, vs, hr1, e1, r1, q1⟩, tx⟩) fun us s1 ⟨vs, H1, I1, r, ι1, h1, ws, hr1, e1, r1, q1⟩ => ⟨I1.kIn, ?_⟩) he hpl
  exact run_fnM hy F hr tk hb I1 r hr1 r1 q1 (tq.mono e1 hR.live hr1.live) (tx.mono e1 hR.live hr1.live)
theorem sn_call0 (F : FnG Y0 X.prog X.w X.K X.mg X.base k f fd ps sem) (hr : RoomG k X.A) (tk : Takes X W) (hg : Gl X x) (hm : X.mg x = some (.ref f)) (hk : PySem.W.keepIn X.K (.ref f) = true) (hb : Binds X.K fd ps []) (hy : Y = Y0.re Y.hid := by rfl)
    (hdb : (x == ("__debug__" : Str)) = false := by decide) :
    SE Y W X (mCall sem aNil) (.Call (.Name x p) [] [] pos) := by
  refine ⟨fun pins s σ H Q I h => ?_⟩
  obtain ⟨ι, sm, hm', Qm, Em, hR, rs, q, tq, tx⟩ := h
  refine wpAny_Call_Name_kw (ld_glob I hg hm ?_ hdb)
  exact PySem.W.callWith_K0 I.kIn hk (run_fnM (us := []) (vs := []) (ws := []) hy F hr tk hb I .nil hR .nil q tq tx)
end
end Mini
/-! Mini, part 8: subscripts, slices, calls of built-in functions, methods of lists. -/
namespace Mini
open PySem PySem.Spec PyProof.Rows L2

/-! ### a[i] -/
def ixV (h : MHp) (v u : MV) : Option MV := match u with
  | .int i => (seqOf h v).bind fun xs => atI xs i
  | _ => none
def ixM (v u : MV) (h : MHp) (Q : MQ) : Prop := ∃ x, ixV h v u = some x ∧ Q x h
theorem RepAll.atI {Y : Lay} {ι : Nat → Addr} {n : Nat} {H : Hp} {xs : List MV} {vs : List V} {i : Int} {x : MV} (r : RepAll Y ι n H xs vs) (h : L2.atI xs i = some x) : ∃ y, L2.atI vs i = some y ∧ Rep Y ι n H x y := by
  unfold L2.atI at h ⊢
  rw [← r.length]
  cases e : ixN xs.length i with
  | none => rw [e] at h; cases h
  | some j =>
    rw [e] at h
    exact r.get h
section
variable {Y : Lay} {W : WX} {X : Cx} {a b : ME} {ea eb : Expr} {pos : Pos}
theorem ix_M : IxR X (R2M Y ixM) := by
  intro value slice pins s σ H x y v' u' Q I rx ry ⟨ι, hm, v, u, Qm, hr, rv, ru, ⟨z, e, q⟩, tq⟩ hs
  unfold ixV at e
  cases ru with
  | int i =>
    cases e2 : seqOf hm v with
    | none => simp [e2] at e
    | some xs =>
      simp only [e2, Option.bind_some] at e
      obtain ⟨p, vs, rfl, sq, ra⟩ := seqOf_rep X.K hr rv e2
      obtain ⟨y, hy, ry'⟩ := ra.atI e
      rcases sq with sq | sq
      · exact ix_list value slice pins s σ H _ _ v' u' Q I rx ry ⟨p, vs, i, y, rfl, rfl, sq, hy, tq.here hr ry' q⟩ hs
      · exact ix_tup value slice pins s σ H _ _ v' u' Q I rx ry ⟨p, vs, i, y, rfl, rfl, sq, hy, tq.here hr ry' q⟩ hs
  | _ => simp at e
theorem sn_ix (ha : SE Y W X a ea) (hb : SE Y W X b eb) (hs : PlainIx eb := by intro _ _; rfl) : SE Y W X (mOp2 ixM a b) (.Subscript ea eb pos) :=
  peI (pe_ix ix_M ha hb hs) fun s H Q h => tM_op2 h
end

/-! ### a[i:j] -/
abbrev MO := MSt → MHp → (Option Int → MHp → Prop) → MQ → Prop
def pNo : MO := fun _ h Q _ => Q none h
def pAt (a : ME) : MO := fun s h Q E => a s h (fun v h1 => ∃ i, v = .int i ∧ Q (some i) h1) E
def cutM {α : Type} (xs : List α) (lo hi : Option Int) : List α := (xs.drop (HT.sIx xs.length 0 lo)).take (HT.sIx xs.length xs.length hi - HT.sIx xs.length 0 lo)
/-- of a tuple or a list (then a tree) -/
def slM (v : MV) (lo hi : Option Int) (h : MHp) (Q : MQ) : Prop := match v with
  | .tup xs => Q (.tup (cutM xs lo hi)) h
  | v => ∃ xs, lstOf h v = some xs ∧ Q (.fl (cutM xs lo hi)) h
/-- .. of a list, a cell -/
def slMC (v : MV) (lo hi : Option Int) (h : MHp) (Q : MQ) : Prop := ∃ xs, lstOf h v = some xs ∧ Q (.ref h.length) (h ++ [.lst (cutM xs lo hi)])
def mSl (r : MV → Option Int → Option Int → MHp → MQ → Prop) (a : ME) (l u : MO) : ME := fun s h Q E => a s h (fun v h1 => l s h1 (fun lo h2 => u s h2 (fun hi h3 => r v lo hi h3 Q) E) E) E
section
variable {Y : Lay} {W : WX} {X : Cx} {a : ME} {l u : MO} {e : Expr} {lo hi : Option Expr} {pos p2 : Pos}
def tMO (Y : Lay) (W : WX) (m : MO) : TO := fun s H Q => ∃ ι sm hm Qm Em, HR Y ι hm H ∧ RS Y ι hm.length H sm s ∧ m sm hm Qm Em ∧ (∀ o h' ι' H', HR Y ι' h' H' → Ext hm.length h'.length ι ι' H H' → Qm o h' → Q o H') ∧ TrX Y ι hm.length H s Em W
abbrev SO (Y : Lay) (W : WX) (X : Cx) (m : MO) (o : Option Expr) : Prop := PO X o (tMO Y W m)
theorem poI {X : Cx} {o : Option Expr} {t t' : TO} (h : PO X o t) (i : ∀ s H Q, t' s H Q → t s H Q) : PO X o t' := ⟨fun pins s σ H Q I q => h.run pins s σ H Q I (i _ _ _ q)⟩
theorem so_no : SO Y W X pNo none := poI po_none fun s H Q ⟨ι, sm, hm, Qm, Em, hr, rs, q, tq, tx⟩ => tq _ _ _ _ hr .refl q
theorem so_at (h : SE Y W X a e) : SO Y W X (pAt a) (some e) := poI (po_some h) fun s H Q ⟨ι, sm, hm, Qm, Em, hr, rs, q, tq, tx⟩ => by
  refine ⟨ι, sm, hm, _, Em, hr, rs, q, fun v h1 ι1 H1 x hr1 e1 r1 ⟨i, ev, q1⟩ => ?_, tx⟩
  subst ev
  cases r1
  exact ⟨i, rfl, tq _ _ _ _ hr1 e1 q1⟩
theorem RepAll.cutM {ι : Nat → Addr} {n : Nat} {H : Hp} {xs : List MV} {vs : List V} (r : RepAll Y ι n H xs vs) (lo hi : Option Int) : RepAll Y ι n H (cutM xs lo hi) (cutV vs lo hi) := by
  unfold Mini.cutM cutV
  rw [r.length]
  exact (r.drop _).take _
def SlM (r : MV → Option Int → Option Int → MHp → MQ → Prop) (Y : Lay) : V → Option Int → Option Int → Hp → VK → Prop := fun x lo hi H Q => ∃ ι hm v Qm, HR Y ι hm H ∧ Rep Y ι hm.length H v x ∧ r v lo hi hm Qm ∧ TrQ Y ι hm.length H Qm Q
theorem slI {X : Cx} {r r' : V → Option Int → Option Int → Hp → VK → Prop} (h : SlR X r) (i : ∀ x lo hi H Q, r' x lo hi H Q → r x lo hi H Q) : SlR X r' := fun pins s σ H x v vl vu lo hi sl Q I rx hs pl pu q => h pins s σ H x v vl vu lo hi sl Q I rx hs pl pu (i _ _ _ _ _ q)
theorem sl_M : SlR X (SlM slM Y) := by
  refine slI (sl_tupA.or sl_list) fun x lo hi H Q ⟨ι, hm, v, Qm, hr, rv, q, tq⟩ => ?_
  have lst : (∃ xs, lstOf hm v = some xs ∧ Qm (.fl (cutM xs lo hi)) hm) → rSlL X.K x lo hi H Q := fun ⟨xs, e, q⟩ => by
    obtain ⟨p, vs, rfl, sq, ra⟩ := lstOf_rep X.K hr rv e
    exact ⟨p, vs, rfl, sq, fun p hp => tq.newL hr (ra.cutM lo hi) q hp⟩
  cases v with
  | tup xs =>
    cases rv with
    | @tup _ vs a e ra =>
      refine .inl ?_
      have rc := ra.cutM lo hi
      refine ⟨a, vs, rfl, SqT.of e, fun hw => ?_, fun _ p hp => tq.newT hr rc q hp⟩
      have z : cutM xs lo hi = xs := by
        unfold cutM
        rw [ra.length, hw.1, hw.2, ← ra.length]
        simp
      have q' : Qm (.tup (cutM xs lo hi)) hm := q
      rw [z] at q'
      exact tq.here hr (.tup e ra) q'
  | _ => exact .inr (lst q)
theorem sl_MC : SlR X (SlM slMC Y) := by
  refine slI sl_list fun x lo hi H Q ⟨ι, hm, v, Qm, hr, rv, ⟨xs, e, q⟩, tq⟩ => ?_
  obtain ⟨p, vs, rfl, sq, ra⟩ := lstOf_rep X.K hr rv e
  exact ⟨p, vs, rfl, sq, fun p hp => tq.newC hr (ra.cutM lo hi) q hp⟩
theorem sn_sl {r : MV → Option Int → Option Int → MHp → MQ → Prop} (h : SlR X (SlM r Y)) (he : SE Y W X a e) (hl : SO Y W X l lo) (hu : SO Y W X u hi) : SE Y W X (mSl r a l u) (.Subscript e (.Slice lo hi none p2) pos) :=
  peI (pe_slice h he hl hu) fun s H Q ⟨ι, sm, hm, Qm, Em, hr, rs, q, tq, tx⟩ => by
    refine ⟨ι, sm, hm, _, Em, hr, rs, q, fun v h1 ι1 H1 x hr1 e1 r1 q1 => ?_, tx⟩
    refine ⟨ι1, sm, h1, _, Em, hr1, rs.mono e1 hr.live, q1, fun lo h2 ι2 H2 hr2 e2 q2 => ?_, tx.mono e1 hr.live hr1.live⟩
    have e12 := e1.trans e2 hr.live hr1.live
    refine ⟨ι2, sm, h2, _, Em, hr2, rs.mono e12 hr.live, q2, fun hi h3 ι3 H3 hr3 e3 q3 => ?_, tx.mono e12 hr.live hr2.live⟩
    have e13 := e12.trans e3 hr.live hr2.live
    exact ⟨ι3, h3, v, Qm, hr3, (r1.mono e2 hr1.live).mono e3 hr2.live, q3, tq.mono e13 hr.live hr3.live⟩
end

/-! ### a cell is changed -/
section
variable {Y : Lay} {ι : Nat → Addr} {hm : MHp} {H : Hp}
theorem Ext.cell {n i : Nat} (hi : i < n) (o : HO) : Ext n n ι ι H (upd H (ι i) o) :=
  ⟨Nat.le_refl _, fun _ _ => rfl, fun a u e ho => by rw [upd_ne (fun z => ho i hi z.symm)]; exact e, fun j h1 h2 => absurd h1 (by omega)⟩
theorem HR.setCell {i : Nat} {c : Cell} {o : HO} (hr : HR Y ι hm H) (hi : i < hm.length) (rc : RepC Y ι hm.length (upd H (ι i) o) (ι i) c) : HR Y ι (hm.set i c) (upd H (ι i) o) where
  inj := by rw [List.length_set]; exact hr.inj
  cell := fun j d e => by
    rw [List.length_set]
    by_cases hj : i = j
    · subst hj
      rw [List.getElem?_set_self hi] at e
      cases e
      exact rc
    · rw [List.getElem?_set_ne hj] at e
      have hjl := (List.getElem?_eq_some_iff.mp e).1
      exact repC_mono (Ext.cell hi o) hr.live (fun u hu _ => by rw [upd_ne fun z => hj (hr.inj i j hi hjl z.symm)]; exact hu) (hr.cell j d e)
  hid := fun a ha => by
    obtain ⟨⟨u, hu⟩, h2⟩ := hr.hid a ha
    rw [List.length_set]
    exact ⟨⟨u, by rw [upd_ne fun z => h2 i hi z.symm]; exact hu⟩, h2⟩
/-- a list cell gets other items -/
theorem TrQ.setL {Qm : MQ} {Q : VK} {i : Nat} {v : MV} {x : V} {xs : List MV} {vs : List V} (t : TrQ Y ι hm.length H Qm Q) (hr : HR Y ι hm H) (hi : i < hm.length) (rv : Rep Y ι hm.length H v x) (r : RepAll Y ι hm.length H xs vs) (q : Qm v (hm.set i (.lst xs))) : Q x (upd H (ι i) (.lst vs)) := by
  have e := Ext.cell (ι := ι) (H := H) hi (.lst vs)
  have e' : Ext hm.length (hm.set i (.lst xs)).length ι ι H (upd H (ι i) (.lst vs)) := by rw [List.length_set]; exact e
  exact t v (hm.set i (.lst xs)) ι _ x (hr.setCell hi ⟨vs, upd_same, r.mono e hr.live⟩) e' (by rw [List.length_set]; exact rv.mono e hr.live) q
end
/-- the items of a list that may change, its cell's number -/
def cellOf (h : MHp) : MV → Option (Nat × List MV)
  | .ref n => match h[n]? with
    | some (.lst xs) => some (n, xs)
    | _ => none
  | _ => none
theorem cellOf_rep {Y : Lay} {ι : Nat → Addr} {hm : MHp} {H : Hp} {v : MV} {x : V} {n : Nat} {xs : List MV} (hr : HR Y ι hm H) (r : Rep Y ι hm.length H v x) (h : cellOf hm v = some (n, xs)) :
    v = .ref n ∧ n < hm.length ∧ x = .ref (ι n) ∧ ∃ vs, H (ι n) = some (.lst vs) ∧ RepAll Y ι hm.length H xs vs := by
  unfold cellOf at h
  cases r with
  | @ref i hi =>
    cases e : hm[i]? with
    | none => simp [e] at h
    | some c =>
      simp only [e] at h
      cases c with
      | lst ys =>
        cases h
        exact ⟨rfl, hi, rfl, hr.cell _ _ e⟩
      | _ => cases h
  | _ => simp at h

/-! ### a[i] = v -/
def gIx (o i : ME) : MG := fun v s h Q E => o s h (fun x h1 => i s h1 (fun k h2 => ∃ n xs j m, cellOf h2 x = some (n, xs) ∧ k = .int j ∧ ixN xs.length j = some m ∧ Q s (h2.set n (.lst (xs.set m v)))) E) E
section
variable {Y : Lay} {W : WX} {X : Cx} {o i : ME} {eo ei : Expr} {pos : Pos}
theorem sg_ix (ho : SE Y W X o eo) (hi : SE Y W X i ei)
    (ha : ∀ v, assign (.Subscript eo ei pos) X.env v = (do
      let ov ← holding [v] (eval eo X.env)
      let iv ← holding [v, ov] (eval ei X.env)
      standAt pos
      holding [v, ov, iv] (setItem ov iv v)
      release [v, ov, iv] []) := by intro _; rfl) : SG Y W X (gIx o i) (.Subscript eo ei pos) :=
  psgI (pg_sub ho hi set_list ha) fun x s H Q ⟨ι, sm, hm, v, Qm, Em, hr, rs, r, q, tq, tx⟩ => by
    refine ⟨ι, sm, hm, _, Em, hr, rs, q, fun y h1 ι1 H1 oy hr1 e1 r1 q1 => ?_, tx⟩
    refine ⟨ι1, sm, h1, _, Em, hr1, rs.mono e1 hr.live, q1, fun k h2 ι2 H2 kv hr2 e2 r2 q2 => ?_, tx.mono e1 hr.live hr1.live⟩
    obtain ⟨n, xs, j, m, hc, rfl, hj, q2⟩ := q2
    cases r2
    obtain ⟨rfl, hn, rfl, vs, hv, ra⟩ := cellOf_rep hr2 (r1.mono e2 hr1.live) hc
    have e12 := e1.trans e2 hr.live hr1.live
    have hvr := r.mono e12 hr.live
    refine ⟨_, vs, j, m, rfl, rfl, hv, by rw [← ra.length]; exact hj, ?_⟩
    have e3 := Ext.cell (ι := ι2) (H := H2) hn (.lst (vs.set m x))
    have e3' : Ext h2.length (h2.set n (.lst (xs.set m v))).length ι2 ι2 H2 (upd H2 (ι2 n) (.lst (vs.set m x))) := by rw [List.length_set]; exact e3
    refine tq sm _ ι2 _ s (hr2.setCell (c := .lst (xs.set m v)) hn ⟨_, upd_same, (ra.set hvr m).mono e3 hr2.live⟩) (e12.trans e3' hr.live hr2.live) ?_ q2
    rw [List.length_set]
    exact (rs.mono e12 hr.live).mono e3 hr2.live
end

/-! ### built-in functions -/
def mB (op : List MV → MHp → MQ → Prop) (a : MA) : ME := fun s h Q E => a s h (fun vs h1 => op vs h1 Q) E
section
variable {Y : Lay} {W : WX} {X : Cx} {op : List MV → MHp → MQ → Prop} {a : MA} {x : Str} {p pos : Pos} {e : Expr} {es : List Expr} {id T : String}
theorem tM_B {s : L2.St} {H : Hp} {Q : VK} (h : tM Y W (mB op a) s H Q) : tCB (RNM Y op) (tMA Y W a) s H Q := by
  obtain ⟨ι, sm, hm, Qm, Em, hr, rs, q, tq, tx⟩ := h
  exact ⟨ι, sm, hm, _, Em, hr, rs, q, fun vs h1 ι1 H1 xs hr1 e1 r1 q1 => ⟨ι1, h1, vs, Qm, hr1, r1, q1, tq.mono e1 hr.live hr1.live⟩, tx⟩
theorem sn_B (hc : CallR X (.builtin id) (RNM Y op)) (hg : Gl X x) (hm : X.mg x = none) (ha : SA Y W X a (e :: es)) (hv : bootBuiltins x = some (.builtin id) := by rfl) (hn : x ≠ "__name__" := by decide) (hdb : (x == ("__debug__" : Str)) = false := by decide)
    (he : starEach (e :: es) X.env = (false, eval e X.env) :: starEach es X.env := by rfl) (hpl : (backTo pos (starEach es X.env)).any (·.1) = false := by rfl) : SE Y W X (mB op a) (.Call (.Name x p) (e :: es) [] pos) :=
  peI (pe_callB hc hg hm hv ha hn hdb he hpl) fun s H Q h => tM_B h
theorem sn_T (hc : CallR X (.type T) (RNM Y op)) (hg : Gl X x) (hm : X.mg x = none) (ha : SA Y W X a (e :: es)) (hv : bootBuiltins x = some (.type T) := by rfl) (hn : x ≠ "__name__" := by decide) (hdb : (x == ("__debug__" : Str)) = false := by decide)
    (he : starEach (e :: es) X.env = (false, eval e X.env) :: starEach es X.env := by rfl) (hpl : (backTo pos (starEach es X.env)).any (·.1) = false := by rfl) : SE Y W X (mB op a) (.Call (.Name x p) (e :: es) [] pos) :=
  peI (pe_callTy hc hg hm hv ha hn hdb he hpl) fun s H Q h => tM_B h
theorem crI {f : Value} {r r' : List V → Hp → VK → Prop} (h : CallR X f r) (i : ∀ xs H Q, r' xs H Q → r xs H Q) : CallR X f r' := fun pins s σ H xs us Q I rx q => h pins s σ H xs us Q I rx (i _ _ _ q)
theorem rep1 {ι : Nat → Addr} {n : Nat} {H : Hp} {v : MV} {xs : List V} (r : RepAll Y ι n H [v] xs) : ∃ x, xs = [x] ∧ Rep Y ι n H v x := by
  cases r with
  | cons r t => cases t; exact ⟨_, rfl, r⟩
theorem rep2 {ι : Nat → Addr} {n : Nat} {H : Hp} {v u : MV} {xs : List V} (r : RepAll Y ι n H [v, u] xs) : ∃ x y, xs = [x, y] ∧ Rep Y ι n H v x ∧ Rep Y ι n H u y := by
  cases r with
  | cons r t =>
    obtain ⟨y, rfl, q⟩ := rep1 t
    exact ⟨_, _, rfl, r, q⟩

/-- len of a list, a tuple -/
def lenM (vs : List MV) (h : MHp) (Q : MQ) : Prop := ∃ v xs, vs = [v] ∧ seqOf h v = some xs ∧ Q (.int xs.length) h
theorem call_lenM : CallR X (.builtin "len") (RNM Y lenM) := crI call_len_seq fun xs H Q ⟨ι, hm, vs, Qm, hr, ra, ⟨v, ys, e, e2, q⟩, tq⟩ => by
  subst e
  obtain ⟨x, rfl, r⟩ := rep1 ra
  obtain ⟨p, ws, rfl, sq, rr⟩ := seqOf_rep X.K hr r e2
  exact ⟨p, ws, rfl, sq, by rw [← rr.length]; exact tq.here hr (.int _) q⟩
/-- list of a list, a tuple: a tree, a cell -/
def listM (vs : List MV) (h : MHp) (Q : MQ) : Prop := ∃ v xs, vs = [v] ∧ seqOf h v = some xs ∧ Q (.fl xs) h
def listMC (vs : List MV) (h : MHp) (Q : MQ) : Prop := ∃ v xs, vs = [v] ∧ seqOf h v = some xs ∧ Q (.ref h.length) (h ++ [.lst xs])
theorem call_listM : CallR X (.type "list") (RNM Y listM) := crI call_list_of fun xs H Q ⟨ι, hm, vs, Qm, hr, ra, ⟨v, ys, e, e2, q⟩, tq⟩ => by
  subst e
  obtain ⟨x, rfl, r⟩ := rep1 ra
  obtain ⟨p, ws, rfl, sq, rr⟩ := seqOf_rep X.K hr r e2
  exact ⟨p, ws, rfl, sq, fun l hl => tq.newL hr rr q hl⟩
theorem call_listMC : CallR X (.type "list") (RNM Y listMC) := crI call_list_of fun xs H Q ⟨ι, hm, vs, Qm, hr, ra, ⟨v, ys, e, e2, q⟩, tq⟩ => by
  subst e
  obtain ⟨x, rfl, r⟩ := rep1 ra
  obtain ⟨p, ws, rfl, sq, rr⟩ := seqOf_rep X.K hr r e2
  exact ⟨p, ws, rfl, sq, fun l hl => tq.newC hr rr q hl⟩
def tupleM (vs : List MV) (h : MHp) (Q : MQ) : Prop := ∃ v xs, vs = [v] ∧ seqOf h v = some xs ∧ Q (.tup xs) h
theorem call_tupleM : CallR X (.type "tuple") (RNM Y tupleM) := crI call_tuple_of fun xs H Q ⟨ι, hm, vs, Qm, hr, ra, ⟨v, ys, e, e2, q⟩, tq⟩ => by
  subst e
  obtain ⟨x, rfl, r⟩ := rep1 ra
  have hcase : (∃ zs, v = .tup zs) ∨ lstOf hm v = some ys := by
    cases v <;> first | exact .inl ⟨_, rfl⟩ | exact .inr e2
  rcases hcase with ⟨zs, rfl⟩ | e3
  · cases r with
    | @tup zs ws a ea rr =>
      cases e2
      exact ⟨a, ws, rfl, .inr ⟨SqT.of ea, tq.here hr (.tup ea rr) q⟩⟩
  · obtain ⟨p, ws, rfl, sq, rr⟩ := lstOf_rep X.K hr r e3
    exact ⟨p, ws, rfl, .inl ⟨sq, fun l hl => tq.newT hr rr q hl⟩⟩
/-- int of an int, a bool -/
def intM (vs : List MV) (h : MHp) (Q : MQ) : Prop := match vs with
  | [.int i] => Q (.int i) h
  | [.bl b] => Q (.int (if b then 1 else 0)) h
  | _ => False
theorem call_intM : CallR X (.type "int") (RNM Y intM) := crI call_int1 fun xs H Q ⟨ι, hm, vs, Qm, hr, ra, q, tq⟩ => by
  unfold intM at q
  split at q
  · obtain ⟨x, rfl, r⟩ := rep1 ra
    cases r
    exact .inl ⟨_, rfl, tq.here hr (.int _) q⟩
  · obtain ⟨x, rfl, r⟩ := rep1 ra
    cases r
    exact .inr ⟨_, rfl, tq.here hr (.int _) q⟩
  · exact q.elim
def boolM (vs : List MV) (h : MHp) (Q : MQ) : Prop := match vs with
  | [.int i] => Q (.bl (i != 0)) h
  | [.bl b] => Q (.bl b) h
  | _ => False
theorem call_boolM : CallR X (.type "bool") (RNM Y boolM) := crI call_bool1 fun xs H Q ⟨ι, hm, vs, Qm, hr, ra, q, tq⟩ => by
  unfold boolM at q
  split at q
  · obtain ⟨x, rfl, r⟩ := rep1 ra
    cases r
    exact .inl ⟨_, rfl, tq.here hr (.bl _) q⟩
  · obtain ⟨x, rfl, r⟩ := rep1 ra
    cases r
    exact .inr ⟨_, rfl, tq.here hr (.bl _) q⟩
  · exact q.elim
def min2M (vs : List MV) (h : MHp) (Q : MQ) : Prop := match vs with
  | [.int i, .int j] => Q (.int (if j < i then j else i)) h
  | _ => False
def max2M (vs : List MV) (h : MHp) (Q : MQ) : Prop := match vs with
  | [.int i, .int j] => Q (.int (if j > i then j else i)) h
  | _ => False
theorem call_min2M (hc : X.calm = true) : CallR X (.builtin "min") (RNM Y min2M) := crI (call_min2 hc) fun xs H Q ⟨ι, hm, vs, Qm, hr, ra, q, tq⟩ => by
  unfold min2M at q
  split at q
  · obtain ⟨x, y, rfl, r1, r2⟩ := rep2 ra
    cases r1
    cases r2
    exact ⟨_, _, rfl, tq.here hr (.int _) q⟩
  · exact q.elim
theorem call_max2M (hc : X.calm = true) : CallR X (.builtin "max") (RNM Y max2M) := crI (call_max2 hc) fun xs H Q ⟨ι, hm, vs, Qm, hr, ra, q, tq⟩ => by
  unfold max2M at q
  split at q
  · obtain ⟨x, y, rfl, r1, r2⟩ := rep2 ra
    cases r1
    cases r2
    exact ⟨_, _, rfl, tq.here hr (.int _) q⟩
  · exact q.elim
/-- ints, bools of a list -/
def intsOf : List MV → Option (List Int)
  | [] => some []
  | .int i :: xs => (intsOf xs).map (i :: ·)
  | _ => none
def blsOf : List MV → Option (List Bool)
  | [] => some []
  | .bl i :: xs => (blsOf xs).map (i :: ·)
  | _ => none
theorem intsOf_rep {ι : Nat → Addr} {n : Nat} {H : Hp} : ∀ {xs : List MV} {vs : List V} {ns : List Int}, RepAll Y ι n H xs vs → intsOf xs = some ns → vs = ns.map V.int
  | [], _, _, .nil, h => by cases h; rfl
  | .int i :: xs, _, ns, .cons r t, h => by
    simp only [intsOf, Option.map_eq_some_iff] at h
    obtain ⟨ms, h, rfl⟩ := h
    cases r
    rw [List.map_cons, ← intsOf_rep t h]
  | .non :: _, _, _, _, h | .bl _ :: _, _, _, _, h | .str _ :: _, _, _, _, h | .tup _ :: _, _, _, _, h | .fl _ :: _, _, _, _, h | .sc _ :: _, _, _, _, h | .fd _ _ :: _, _, _, _, h | .fs _ :: _, _, _, _, h | .fi _ _ :: _, _, _, _, h | .ex _ _ :: _, _, _, _, h | .ref _ :: _, _, _, _, h => by simp [intsOf] at h
theorem blsOf_rep {ι : Nat → Addr} {n : Nat} {H : Hp} : ∀ {xs : List MV} {vs : List V} {ns : List Bool}, RepAll Y ι n H xs vs → blsOf xs = some ns → vs = ns.map V.bl
  | [], _, _, .nil, h => by cases h; rfl
  | .bl i :: xs, _, ns, .cons r t, h => by
    simp only [blsOf, Option.map_eq_some_iff] at h
    obtain ⟨ms, h, rfl⟩ := h
    cases r
    rw [List.map_cons, ← blsOf_rep t h]
  | .non :: _, _, _, _, h | .int _ :: _, _, _, _, h | .str _ :: _, _, _, _, h | .tup _ :: _, _, _, _, h | .fl _ :: _, _, _, _, h | .sc _ :: _, _, _, _, h | .fd _ _ :: _, _, _, _, h | .fs _ :: _, _, _, _, h | .fi _ _ :: _, _, _, _, h | .ex _ _ :: _, _, _, _, h | .ref _ :: _, _, _, _, h => by simp [blsOf] at h
def sumM (vs : List MV) (h : MHp) (Q : MQ) : Prop := ∃ v xs ns, vs = [v] ∧ lstOf h v = some xs ∧ intsOf xs = some ns ∧ Q (.int ns.sum) h
def maxM (vs : List MV) (h : MHp) (Q : MQ) : Prop := ∃ v xs ns, vs = [v] ∧ lstOf h v = some xs ∧ intsOf xs = some ns ∧ 0 < ns.length ∧ ∀ m, m ∈ ns → (∀ y, y ∈ ns → y ≤ m) → Q (.int m) h
def minM (vs : List MV) (h : MHp) (Q : MQ) : Prop := ∃ v xs ns, vs = [v] ∧ lstOf h v = some xs ∧ intsOf xs = some ns ∧ 0 < ns.length ∧ ∀ m, m ∈ ns → (∀ y, y ∈ ns → m ≤ y) → Q (.int m) h
def anyM (vs : List MV) (h : MHp) (Q : MQ) : Prop := ∃ v xs ns, vs = [v] ∧ lstOf h v = some xs ∧ blsOf xs = some ns ∧ Q (.bl (ns.any _root_.id)) h
def allM (vs : List MV) (h : MHp) (Q : MQ) : Prop := ∃ v xs ns, vs = [v] ∧ lstOf h v = some xs ∧ blsOf xs = some ns ∧ Q (.bl (ns.all _root_.id)) h
theorem call_sumM (hc : X.calm = true) : CallR X (.builtin "sum") (RNM Y sumM) := crI (cr_sum hc) fun xs H Q ⟨ι, hm, vs, Qm, hr, ra, ⟨v, ys, ns, e, e2, e3, q⟩, tq⟩ => by
  subst e
  obtain ⟨x, rfl, r⟩ := rep1 ra
  obtain ⟨p, ws, rfl, sq, rr⟩ := lstOf_rep X.K hr r e2
  obtain rfl := intsOf_rep rr e3
  exact ⟨p, ns, rfl, sq, tq.here hr (.int _) q⟩
theorem call_maxM (hc : X.calm = true) : CallR X (.builtin "max") (RNM Y maxM) := crI (cr_max hc) fun xs H Q ⟨ι, hm, vs, Qm, hr, ra, ⟨v, ys, ns, e, e2, e3, hl, q⟩, tq⟩ => by
  subst e
  obtain ⟨x, rfl, r⟩ := rep1 ra
  obtain ⟨p, ws, rfl, sq, rr⟩ := lstOf_rep X.K hr r e2
  obtain rfl := intsOf_rep rr e3
  exact ⟨p, ns, rfl, sq, hl, fun m h1 h2 => tq.here hr (.int _) (q m h1 h2)⟩
theorem call_minM (hc : X.calm = true) : CallR X (.builtin "min") (RNM Y minM) := crI (cr_min hc) fun xs H Q ⟨ι, hm, vs, Qm, hr, ra, ⟨v, ys, ns, e, e2, e3, hl, q⟩, tq⟩ => by
  subst e
  obtain ⟨x, rfl, r⟩ := rep1 ra
  obtain ⟨p, ws, rfl, sq, rr⟩ := lstOf_rep X.K hr r e2
  obtain rfl := intsOf_rep rr e3
  exact ⟨p, ns, rfl, sq, hl, fun m h1 h2 => tq.here hr (.int _) (q m h1 h2)⟩
theorem call_anyM (hc : X.calm = true) : CallR X (.builtin "any") (RNM Y anyM) := crI (cr_any hc) fun xs H Q ⟨ι, hm, vs, Qm, hr, ra, ⟨v, ys, ns, e, e2, e3, q⟩, tq⟩ => by
  subst e
  obtain ⟨x, rfl, r⟩ := rep1 ra
  obtain ⟨p, ws, rfl, sq, rr⟩ := lstOf_rep X.K hr r e2
  obtain rfl := blsOf_rep rr e3
  exact ⟨p, ns, rfl, sq, tq.here hr (.bl _) q⟩
theorem call_allM (hc : X.calm = true) : CallR X (.builtin "all") (RNM Y allM) := crI (cr_all hc) fun xs H Q ⟨ι, hm, vs, Qm, hr, ra, ⟨v, ys, ns, e, e2, e3, q⟩, tq⟩ => by
  subst e
  obtain ⟨x, rfl, r⟩ := rep1 ra
  obtain ⟨p, ws, rfl, sq, rr⟩ := lstOf_rep X.K hr r e2
  obtain rfl := blsOf_rep rr e3
  exact ⟨p, ns, rfl, sq, tq.here hr (.bl _) q⟩
end
end Mini
/-! Mini, part 9: sets of nested tuples of numbers (modelled on HandS.TupSets, whose table lemmas serve here as they are). -/
namespace Mini
open PySem PySem.Spec PyProof.Rows L2

mutual
/-- numbers, None, tuples of such -/
def nkNum : NestedKey → Bool
  | .none => true
  | .num _ => true
  | .text _ => false
  | .tup ks => nkNumAll ks
def nkNumAll : List NestedKey → Bool
  | [] => true
  | k :: ks => nkNum k && nkNumAll ks
end
/-- the tuple at b is the key k -/
structure IsN (h : Heap) (k : NestedKey) (b : Addr) : Prop where
  is : NestedIs h k (.ref b)
  dp : k.depth ≤ 8
  nm : nkNum k = true
theorem IsN.keep {h h' : Heap} {k : NestedKey} {b : Addr} (x : IsN h k b) (hk : ∀ c o, h.get? c = some o → h'.get? c = some o) : IsN h' k b := ⟨NestedIs.at (fun a o _ _ e _ => hk a o e) _ _ x.is, x.dp, x.nm⟩
theorem IsN.same {h h' : Heap} {k : NestedKey} {a b : Addr} {o : Obj} {es : Array (Int × Value)} {ep : Nat} {t : SetTable} (x : IsN h k b) (ho : h.get? a = some o) (hd : o.data = .set es ep t) (hs : Heap.SameBut a h h') : IsN h' k b :=
  ⟨NestedIs.at (fun c u vs n e hc => by
    have hne : c ≠ a := by
      rintro rfl
      rw [ho] at e
      cases e
      rw [hd] at hc
      cases hc
    exact (hs.2 c hne).trans e) _ _ x.is, x.dp, x.nm⟩
theorem IsN.ty {h : Heap} {k : NestedKey} {b : Addr} (x : IsN h k b) : ∃ ks o vs n, k = .tup ks ∧ h.get? b = some o ∧ o.cls = .type "tuple" ∧ o.data = .seq vs n ∧ NestedAll h ks vs.toList := by
  obtain ⟨x, _, _⟩ := x
  cases x with
  | tup h1 h2 h3 h4 => exact ⟨_, _, _, _, rfl, h1, h2, h3, h4⟩

section
variable {P : Program} {w : World} {A : Around} {E : Value → Shared → Prop}
/-! ### small questions -/
mutual
theorem ofAClassN : ∀ (k : NestedKey) (v : Value) (n : Nat) (s : Shared) (A : Around) (E : Value → Shared → Prop) (Q : Bool → Shared → Prop), NestedIs s.heap k v → k.depth ≤ n → Q false s → wpAny (model P w) A (ofAClassStatement n v) Q E s
  | .none, _, n, s, A, E, Q, x, _, h => by cases x; cases n <;> exact wpAny_pure h
  | .num i, _, n, s, A, E, Q, x, _, h => by cases x <;> cases n <;> exact wpAny_pure h
  | .text y, _, n, s, A, E, Q, x, _, h => by cases x; cases n <;> exact wpAny_pure h
  | .tup ks, _, n, s, A, E, Q, x, hn, h => by
    cases x with
    | @tup a o vs m _ hg hc hd hk =>
      simp only [NestedKey.depth] at hn
      cases n with
      | zero => omega
      | succ n =>
        have hT : s.TypeIs (.ref a) "tuple" := ⟨o, hg, hc⟩
        unfold ofAClassStatement
        refine wpAny_bind (wpAny_typeOf hT ?_)
        dsimp only
        have e : (("tuple" : String) == "tuple") = true := by decide
        simp only [e, if_true, Bool.not_true, Bool.false_eq_true, if_false]
        try refine wpAny_bind (wpAny_pure ?_)
        try simp only [Bool.not_true, Bool.false_eq_true, if_false]
        show wpAny _ _ (seqItems? (.ref a) >>= _) _ _ s
        refine wpAny_bind (wpAny_seqItems hg hd ?_)
        dsimp only
        refine wpAny_bind ?_
        show wpAny _ _ (forIn vs _ _) _ _ s
        rw [← Array.forIn_toList]
        have all := ofAClassNs ks vs.toList n s hk (by omega)
        refine wpAny_forIn_list _ (fun rest r s' => r.1 = none ∧ s' = s ∧ ∀ v ∈ rest, v ∈ vs.toList) _ ?_ ?_ _ _ ⟨rfl, rfl, fun _ hv => hv⟩
        · rintro v rest r s' ⟨hr, rfl, hall⟩
          refine wpAny_bind (all v (hall v List.mem_cons_self) _ _ _ ?_)
          simp only [Bool.false_eq_true, if_false]
          exact wpAny_pure ⟨rfl, rfl, fun u hu' => hall u (List.mem_cons_of_mem _ hu')⟩
        · rintro ⟨r1, r2⟩ s' ⟨hr, rfl, _⟩
          simp only at hr
          subst hr
          exact wpAny_pure h
theorem ofAClassNs : ∀ (ks : List NestedKey) (vs : List Value) (n : Nat) (s : Shared), NestedAll s.heap ks vs → NestedKey.depthAll ks ≤ n → ∀ v ∈ vs, ∀ (A : Around) (E : Value → Shared → Prop) (Q : Bool → Shared → Prop), Q false s → wpAny (model P w) A (ofAClassStatement n v) Q E s
  | [], _, n, s, x, _, v, hv => by cases x; cases hv
  | k :: ks, _, n, s, x, hn, v, hv => by
    cases x with
    | cons x1 x2 =>
      simp only [NestedKey.depthAll] at hn
      rcases List.mem_cons.mp hv with e | hv
      · rw [e]; exact fun A E Q h => ofAClassN k _ n s A E Q x1 (by omega) h
      · exact ofAClassNs ks _ n s x2 (by omega) v hv
end
mutual
theorem hashByN : ∀ (k : NestedKey) (v : Value) (n : Nat) (s : Shared) (A : Around) (E : Value → Shared → Prop) (Q : Bool → Shared → Prop), NestedIs s.heap k v → k.depth ≤ n → nkNum k = true → Q true s → wpAny (model P w) A (hashByValue n v) Q E s
  | .none, _, n, s, A, E, Q, x, _, _, h => by cases x; cases n <;> exact wpAny_pure h
  | .num i, _, n, s, A, E, Q, x, _, _, h => by cases x <;> cases n <;> exact wpAny_pure h
  | .text y, _, n, s, A, E, Q, x, _, hk, h => by simp [nkNum] at hk
  | .tup ks, _, n, s, A, E, Q, x, hn, hm, h => by
    cases x with
    | @tup a o vs m _ hg hc hd hk =>
      simp only [NestedKey.depth] at hn
      cases n with
      | zero => omega
      | succ n =>
        have hT : s.TypeIs (.ref a) "tuple" := ⟨o, hg, hc⟩
        unfold hashByValue
        refine wpAny_bind (wpAny_specialOf hT F.slot_tuple_hash.lookup ?_)
        show wpAny _ _ (seqItems? (.ref a) >>= _) _ _ s
        refine wpAny_bind (wpAny_seqItems hg hd ?_)
        refine wpAny_bind ?_
        show wpAny _ _ (forIn vs _ _) _ _ s
        rw [← Array.forIn_toList]
        have all := hashByNs ks vs.toList n s hk (by omega) (by simpa [nkNum] using hm)
        refine wpAny_forIn_list _ (fun rest r s' => r.1 = none ∧ s' = s ∧ ∀ v ∈ rest, v ∈ vs.toList) _ ?_ ?_ _ _ ⟨rfl, rfl, fun _ hv => hv⟩
        · rintro v rest r s' ⟨hr, rfl, hall⟩
          refine wpAny_bind (all v (hall v List.mem_cons_self) _ _ _ ?_)
          simp only [Bool.not_true, Bool.false_eq_true, if_false]
          exact wpAny_pure ⟨rfl, rfl, fun u hu' => hall u (List.mem_cons_of_mem _ hu')⟩
        · rintro ⟨r1, r2⟩ s' ⟨hr, rfl, _⟩
          simp only at hr
          subst hr
          exact wpAny_pure h
theorem hashByNs : ∀ (ks : List NestedKey) (vs : List Value) (n : Nat) (s : Shared), NestedAll s.heap ks vs → NestedKey.depthAll ks ≤ n → nkNumAll ks = true → ∀ v ∈ vs, ∀ (A : Around) (E : Value → Shared → Prop) (Q : Bool → Shared → Prop), Q true s → wpAny (model P w) A (hashByValue n v) Q E s
  | [], _, n, s, x, _, _, v, hv => by cases x; cases hv
  | k :: ks, _, n, s, x, hn, hm, v, hv => by
    cases x with
    | cons x1 x2 =>
      simp only [NestedKey.depthAll] at hn
      simp only [nkNumAll, Bool.and_eq_true] at hm
      rcases List.mem_cons.mp hv with e | hv
      · rw [e]; exact fun A E Q h => hashByN k _ n s A E Q x1 (by omega) hm.1 h
      · exact hashByNs ks _ n s x2 (by omega) hm.2 v hv
end
variable {s : Shared}
/-- a search among tuples shows nothing -/
theorem seenN {k : NestedKey} {b : Addr} {Q : Bool → Shared → Prop} (hk : IsN s.heap k b) {ys : List Value} (hy : ∀ y ∈ ys, ∃ k' c, y = Value.ref c ∧ IsN s.heap k' c) (h : Q false s) :
    wpAny (model P w) A (searchCouldBeSeen (.ref b) ys) Q E s := by
  unfold searchCouldBeSeen
  refine wpAny_bind ?_
  refine wpAny_forIn_list _ (fun rest r s' => r.1 = none ∧ s' = s ∧ ∀ y ∈ rest, ∃ k' c, y = Value.ref c ∧ IsN s.heap k' c) _ ?_ ?_ _ _ ⟨rfl, rfl, hy⟩
  · rintro v rest r s' ⟨hr, rfl, hall⟩
    obtain ⟨k', c, rfl, hc⟩ := hall v List.mem_cons_self
    have rest' : ∀ y ∈ rest, ∃ k' c, y = Value.ref c ∧ IsN s'.heap k' c := fun u hu' => hall u (List.mem_cons_of_mem _ hu')
    dsimp only
    by_cases hv : (b == c || (carriedByValue (.ref b) && carriedByValue (.ref c))) = true
    · exact wp_if_pos hv (wpAny_pure ⟨rfl, rfl, rest'⟩)
    · refine wp_if_neg hv (wpAny_bind (quiet_key k _ 8 s' hk.is hk.dp A _ _ ?_))
      simp only [Bool.not_true, Bool.false_eq_true, if_false]
      refine wpAny_bind (quiet_key k' _ 8 s' hc.is hc.dp A _ _ ?_)
      simp only [Bool.not_true, Bool.false_eq_true, if_false]
      refine wpAny_bind (ofAClassN k _ 8 s' A _ _ hk.is hk.dp ?_)
      simp only [Bool.false_eq_true, if_false]
      refine wpAny_bind (ofAClassN k' _ 8 s' A _ _ hc.is hc.dp ?_)
      simp only [Bool.false_eq_true, if_false]
      exact wpAny_pure ⟨rfl, rfl, rest'⟩
  · rintro ⟨r1, r2⟩ s' ⟨hr, rfl, _⟩
    simp only at hr
    subst hr
    exact wpAny_pure h

/-! ### the set -/
def rowsN (w : World) (L : List (Addr × NestedKey)) : List (Int × Value) := L.map fun p => (p.2.hash w, Value.ref p.1)
structure SetN (w : World) (h : Heap) (a : Addr) (L : List (Addr × NestedKey)) (es : Array (Int × Value)) (ep : Nat) (t : SetTable) : Prop where
  ob : ∃ o, h.get? a = some o ∧ o.ExactSet ∧ o.data = .set es ep t
  rows : es.toList = rowsN w L
  tab : TabOk t (L.map fun p => p.2.hash w)
  nd : (L.map (·.2)).Nodup
  tup : ∀ p ∈ L, IsN h p.2 p.1
  plain : t.plain = true
  led : w.params.followText "set-order" = true ∨ t.led = true
  room : L.length * 5 < t.mask * 3
  few : L.length < 64
variable {a : Addr} {L : List (Addr × NestedKey)} {es : Array (Int × Value)} {ep : Nat} {t : SetTable}
theorem rowsN_length (es : Array (Int × Value)) (L : List (Addr × NestedKey)) (h : es.toList = rowsN w L) : es.size = L.length := by
  have h := congrArg List.length h
  unfold rowsN at h
  rwa [Array.length_toList, List.length_map] at h
theorem SetN.size (R : SetN w s.heap a L es ep t) : es.size = L.length := rowsN_length es L R.rows
theorem SetN.fits (R : SetN w s.heap a L es ep t) : t.fits es.size = true := by
  have h1 := R.tab.sz
  rw [List.length_map] at h1
  have h2 := R.size
  have h3 := R.room
  unfold SetTable.fits SetTable.fill
  rw [R.tab.dm, Bool.and_eq_true, beq_iff_eq, decide_eq_true_eq]
  show t.place.size = es.size ∧ t.place.size + 0 ≤ t.mask
  omega
theorem SetN.entry (R : SetN w s.heap a L es ep t) {i : Nat} {p : Addr × NestedKey} (h : L[i]? = some p) : es[i]? = some (p.2.hash w, Value.ref p.1) := by
  rw [← Array.getElem?_toList, R.rows]
  unfold rowsN
  rw [List.getElem?_map, h] <;> rfl
theorem SetN.gw (R : SetN w s.heap a L es ep t) : ¬ t.gaveWay = true := by
  unfold SetTable.gaveWay
  rw [mask_odd R.tab.mok]
  decide
/-- the c-th probe of a search for the hash -/
abbrev pr (t : SetTable) (h : Int) (c : Nat) : SetTable.Probe := nth t.mask (runAt t.mask (SetTable.bits h % (t.mask + 1)) (SetTable.bits h)) c
theorem pr_dummy (t : SetTable) (h : Int) (c : Nat) : (pr t h c).dummy = none := by
  have key : ∀ (n : Nat) (p : SetTable.Probe), p.dummy = none → (nth t.mask p n).dummy = none := by
    intro n
    induction n with
    | zero => intro p h; exact h
    | succ n ih =>
      intro p h
      refine ih (adv t.mask p) ?_
      unfold adv
      split <;> exact h
  exact key c _ rfl
theorem searchN_from (R : SetN w s.heap a L es ep t) {x : Addr} {k : NestedKey} (hx : IsN s.heap k x) (hu : A.units + 8 < cLine) {K : Nat} (hKf : K < 10 * SetTable.turns t.mask)
    (hK : way t.mask (k.hash w) K ∉ t.place.toList) (hKb : ∀ c, c < K → way t.mask (k.hash w) c ∈ t.place.toList) {Q : SetFound → Shared → Prop}
    (hin : k ∈ L.map (·.2) → Q (.there none) s) (hout : k ∉ L.map (·.2) → Q (.free (way t.mask (k.hash w) K) false) s) :
    ∀ (f c : Nat) (stand : Option SetTable.Probe), stand.getD (t.probeStart (k.hash w)) = pr t (k.hash w) c → c ≤ K → K - c < f →
      (∀ (i : Nat) p, L[i]? = some p → p.2 = k → ∃ c', c ≤ c' ∧ c' < K ∧ t.place.toList[i]? = some (way t.mask (k.hash w) c')) →
      wpAny (model P w) A (setSearchFrom a (.ref x) (k.hash w) true f stand) Q E s
  | 0, c, stand, _, _, hf, _ => absurd hf (Nat.not_lt_zero _)
  | f + 1, c, stand, hst, hc, hf, hre => by
    obtain ⟨o, ho, hex, hd⟩ := R.ob
    rw [setSearchFrom_succ]
    refine wpAny_bind (wpAny_setState_of ho hd R.fits ?_)
    dsimp only
    refine wp_if_neg R.gw ?_
    try refine wpAny_bind (wpAny_pure ?_)
    have sh : ∀ q, nth t.mask (pr t (k.hash w) c) q = pr t (k.hash w) (c + q) := fun q => (nth_add t.mask c _ q).symm
    have e1 : ∀ q, (nth t.mask (pr t (k.hash w) c) q).j = way t.mask (k.hash w) (c + q) := fun q => congrArg SetTable.Probe.j (sh q)
    have spec := go_spec t R.tab.ris R.tab.dm (fun i => (es[i]?.map (·.1)).getD 0) (k.hash w) (10 * SetTable.turns t.mask) (K - c) _ (pr_dummy t (k.hash w) c) (by omega)
      (fun q hq => by rw [e1]; exact hKb (c + q) (by omega)) (by rw [e1, show c + (K - c) = K by omega]; exact hK)
    have hashAt : ∀ (i : Nat) p, L[i]? = some p → (fun i => (es[i]?.map (·.1)).getD 0) i = p.2.hash w := fun i p hp => by
      show (es[i]?.map (·.1)).getD 0 = _
      rw [R.entry hp] <;> rfl
    rcases spec with ⟨q, i, hq, hi, hh, hno, hpr⟩ | ⟨hno, hpr⟩
    · have hpr' : t.probe (fun i => (es[i]?.map (·.1)).getD 0) (k.hash w) (stand.getD (t.probeStart (k.hash w))) = some (.candidate (way t.mask (k.hash w) (c + q)) i (pr t (k.hash w) (c + (q + 1)))) := by
        rw [hst, ← e1, ← sh]
        exact hpr
      rw [hpr']
      dsimp only
      rw [e1] at hi
      have hil : i < L.length := by
        have h1 : i < t.place.toList.length := (List.getElem?_eq_some_iff.mp hi).1
        have h2 := R.tab.sz
        rw [List.length_map] at h2
        rw [Array.length_toList] at h1
        omega
      have hp : L[i]? = some L[i] := List.getElem?_eq_getElem hil
      generalize hpe : L[i] = p at hp
      have hmem : p ∈ L := List.mem_of_getElem? hp
      have hpt := R.tup p hmem
      have rest : wpAny (model P w) A (searchRest a (.ref x) (k.hash w) true f es t (way t.mask (k.hash w) (c + q)) i (pr t (k.hash w) (c + (q + 1)))) Q E s := by
        unfold searchRest
        rw [R.entry hp]
        dsimp only
        have hd8 := hx.dp
        refine wpAny_bind (wpAny_holding (eqAt_key p.2 k A s _ _ hpt.is hx.is (by have := hpt.dp; omega) _ _ _ _ ?_))
        refine wpAny_bind (wpAny_setState_of ho hd R.fits ?_)
        dsimp only
        rw [← NestedKey.decide_eq]
        by_cases hkk : p.2 = k
        · refine wp_if_pos (by simp [hkk]) (wpAny_pure (hin ?_))
          exact List.mem_map.mpr ⟨p, hmem, hkk⟩
        · refine wp_if_neg (by simp [hkk]) ?_
          try refine wpAny_bind (wpAny_pure ?_)
          rw [sameMem]
          dsimp only
          have hsl : t.slot (way t.mask (k.hash w) (c + q)) = .live i := slot_live R.tab.ris hi
          simp only [if_true, hsl, R.entry hp]
          refine wpAny_bind (wpAny_isSame_ref_self (wpAny_bind (wpAny_pure ?_)))
          simp only [if_true]
          refine wp_if_neg (by simp [hkk]) ?_
          refine searchN_from R hx hu hKf hK hKb hin hout f (c + (q + 1)) _ rfl (by omega) (by omega) fun i0 p0 h0 hk0 => ?_
          obtain ⟨c', a1, a2, a3⟩ := hre i0 p0 h0 hk0
          refine ⟨c', ?_, a2, a3⟩
          rcases Nat.lt_or_ge c' (c + q) with z | z
          · exfalso
            refine hno (c' - c) i0 (by omega) (by rw [e1, show c + (c' - c) = c' by omega]; exact a3) ?_
            exact (hashAt i0 p0 h0).trans (congrArg (NestedKey.hash w) hk0)
          · rcases Nat.lt_or_ge (c + q) c' with y | y
            · omega
            · exfalso
              have ec : c' = c + q := Nat.le_antisymm y z
              rw [ec] at a3
              have s0 := slot_live R.tab.ris a3
              rw [hsl] at s0
              injection s0 with s0
              rw [← s0, hp] at h0
              exact hkk ((congrArg Prod.snd (Option.some.inj h0)).trans hk0)
      by_cases hl : t.led = true
      · refine wp_if_neg (by simp [hl]) ?_
        try refine wpAny_bind (wpAny_pure ?_)
        exact rest
      · refine wp_if_pos (by simp [hl]) (wpAny_bind (seenN hx (fun y hy => ?_) ?_))
        · obtain ⟨e, he, ee⟩ := List.mem_map.mp hy
          have he1 : e ∈ es ∧ e.1 = k.hash w := by simpa using he
          have he2 : e ∈ es.toList := by simpa using he1.1
          rw [R.rows] at he2
          obtain ⟨p2, hp2, e2⟩ := List.mem_map.mp he2
          refine ⟨p2.2, p2.1, ?_, R.tup p2 hp2⟩
          rw [← ee, ← e2]
        · refine wp_if_neg (by decide) ?_
          try refine wpAny_bind (wpAny_pure ?_)
          exact rest
    · have hpr' : t.probe (fun i => (es[i]?.map (·.1)).getD 0) (k.hash w) (stand.getD (t.probeStart (k.hash w))) = some (.empty (way t.mask (k.hash w) K) none) := by
        have e2 : way t.mask (k.hash w) K = (nth t.mask (pr t (k.hash w) c) (K - c)).j := by
          rw [e1, show c + (K - c) = K by omega]
        rw [hst, e2]
        exact hpr
      rw [hpr']
      dsimp only
      refine wpAny_pure (hout fun hm => ?_)
      obtain ⟨p0, h0, hk0⟩ := List.mem_map.mp hm
      obtain ⟨i0, hi0, e0⟩ := List.getElem_of_mem h0
      have h00 : L[i0]? = some p0 := by rw [List.getElem?_eq_getElem hi0, e0]
      obtain ⟨c', a1, a2, a3⟩ := hre i0 p0 h00 hk0
      refine hno (c' - c) i0 (by omega) (by rw [e1, show c + (c' - c) = c' by omega]; exact a3) ?_
      exact (hashAt i0 p0 h00).trans (congrArg (NestedKey.hash w) hk0)
theorem searchN_at (R : SetN w s.heap a L es ep t) {x : Addr} {k : NestedKey} (hx : IsN s.heap k x) (hu : A.units + 8 < cLine) {Q : SetFound → Shared → Prop}
    (hin : k ∈ L.map (·.2) → Q (.there none) s)
    (hout : ∀ K, k ∉ L.map (·.2) → way t.mask (k.hash w) K ∉ t.place.toList → (∀ c, c < K → way t.mask (k.hash w) c ∈ t.place.toList) → Q (.free (way t.mask (k.hash w) K) false) s) :
    wpAny (model P w) A (setSearch a (.ref x) (k.hash w) true) Q E s := by
  have hroom := R.room
  obtain ⟨K, hKf, hK, hKb⟩ := R.tab.first (by rw [List.length_map]; omega) (k.hash w)
  have hbig : K < 100000 := by
    have : 10 * SetTable.turns t.mask ≤ 1420 := by
      unfold SetTable.turns
      rcases R.tab.mok with e | e | e <;> omega
    omega
  unfold setSearch
  refine searchN_from R hx hu hKf hK hKb hin (fun hn => hout K hn hK hKb) 100000 0 none rfl (Nat.zero_le _) (by omega) fun i p hp hk => ?_
  have hi : (L.map fun p => p.2.hash w)[i]? = some (k.hash w) := by rw [List.getElem?_map, hp, ← hk] <;> rfl
  have hil : i < t.place.toList.length := by
    have h1 : i < L.length := (List.getElem?_eq_some_iff.mp hp).1
    have h2 := R.tab.sz
    rw [List.length_map] at h2
    rw [Array.length_toList]
    omega
  have hj := List.getElem?_eq_getElem hil
  obtain ⟨c, hc, e⟩ := R.tab.before hK hi hj
  exact ⟨c, Nat.zero_le _, hc, by rw [hj, e]⟩
end
end Mini
/-! Mini, part 10: a set of nested tuples is filled, from a list or a tuple. -/
namespace Mini
open PySem PySem.Spec PyProof.Rows L2
section
variable {P : Program} {w : World} {A : Around} {E : Value → Shared → Prop} {s : Shared}
theorem orderN (L : List (Addr × NestedKey)) (es : Array (Int × Value)) (order : Array Nat) (hr : es.toList = rowsN w L) (hp : order.toList.Perm (List.range L.length)) :
    ∃ L2, (order.filterMap (es[·]?)).toList = rowsN w L2 ∧ L2.Perm L ∧ (L2.map fun p => p.2.hash w) = order.toList.map fun i => (es.map (·.1)).getD i 0 := by
  have hsz := rowsN_length es L hr
  have ent : ∀ i (h : i < L.length), es[i]? = some ((L[i]).2.hash w, Value.ref (L[i]).1) := fun i h => by
    rw [← Array.getElem?_toList, hr]
    unfold rowsN
    rw [List.getElem?_map, List.getElem?_eq_getElem h] <;> rfl
  have key : ∀ l : List Nat, (∀ i ∈ l, i < L.length) → l.filterMap (fun i => es[i]?) = rowsN w (l.filterMap (fun i => L[i]?)) ∧ ((l.filterMap (fun i => L[i]?)).map fun p => p.2.hash w) = l.map fun i => (es.map (·.1)).getD i 0 := by
    intro l
    induction l with
    | nil => intro _; exact ⟨rfl, rfl⟩
    | cons i l ih =>
      intro hl
      have hi := hl i List.mem_cons_self
      obtain ⟨e1, e3⟩ := ih fun j hj => hl j (List.mem_cons_of_mem _ hj)
      rw [List.filterMap_cons_some (List.getElem?_eq_getElem hi)]
      refine ⟨by rw [List.filterMap_cons_some (ent i hi), e1] <;> rfl, ?_⟩
      rw [List.map_cons, List.map_cons, e3]
      have e5 : (es.map (·.1))[i]? = some ((L[i]).2.hash w) := by rw [Array.getElem?_map, ent i hi] <;> rfl
      have e4 : (es.map (·.1)).getD i 0 = (L[i]).2.hash w := by simp [Array.getD_eq_getD_getElem?, e5]
      rw [e4]
  obtain ⟨e1, e3⟩ := key order.toList fun i hi => List.mem_range.mp (hp.mem_iff.mp hi)
  refine ⟨_, by first | (rw [Array.toList_filterMap]; exact e1) | simpa using e1, ?_, e3⟩
  have h1 := hp.filterMap (fun i => L[i]?)
  have h2 : (List.range L.length).filterMap (fun i => L[i]?) = L := by
    have key2 : ∀ n, n ≤ L.length → (List.range n).filterMap (fun i => L[i]?) = L.take n := by
      intro n
      induction n with
      | zero => intro _; rfl
      | succ n ih =>
        intro hn
        have hlt : n < L.length := hn
        rw [List.range_succ, List.filterMap_append, ih (Nat.le_of_lt hlt), List.take_succ, List.getElem?_eq_getElem hlt]
        rw [List.filterMap_cons_some (List.getElem?_eq_getElem hlt)] <;> rfl
    rw [key2 L.length (Nat.le_refl _), List.take_length]
  rwa [h2] at h1
variable {a : Addr} {L : List (Addr × NestedKey)} {es : Array (Int × Value)} {ep : Nat} {t : SetTable}
/-- the table laid anew, larger -/
theorem relayN {o : Obj} (ho : s.heap.get? a = some o) (hex : o.ExactSet) (hd : o.data = .set es ep t) (hrows : es.toList = rowsN w L) (hsz : t.place.size = es.size) (hdm : t.dummies = #[]) (hfl : es.size ≤ t.mask)
    (nd : (L.map (·.2)).Nodup) (tup : ∀ p ∈ L, IsN s.heap p.2 p.1) (pl : t.plain = true) (ld : w.params.followText "set-order" = true ∨ t.led = true) (few : L.length < 64) {wanted M : Nat}
    (hw : SetTable.sizeAbove wanted - 1 = M) (hM : MaskOk M) (hw2 : SetTable.sizeAbove wanted ≤ 128) (hn : L.length * 5 < M * 3) {Q : Unit → Shared → Prop}
    (hQ : ∀ h' L' es' ep' t', Heap.SameBut a s.heap h' → SetN w h' a L' es' ep' t' → L'.Perm L → Q () { s with heap := h' }) : wpAny (model P w) A (setRelay a wanted) Q E s := by
  have hsl := rowsN_length es L hrows
  have hfits : t.fits es.size = true := by
    unfold SetTable.fits SetTable.fill
    rw [hdm, Bool.and_eq_true, beq_iff_eq, decide_eq_true_eq]
    show t.place.size = es.size ∧ t.place.size + 0 ≤ t.mask
    omega
  obtain ⟨t', order, e, hp, T, em, el, ep', ed⟩ := relaid_ok t (hs := es.map (·.1)) (wanted := wanted) hw hM (by rw [Array.size_map, hsl]; omega)
  rw [Array.size_map, hsl] at hp
  obtain ⟨L2, r1, r2, r3⟩ := orderN L es order hrows hp
  rw [← r3] at T
  have hs2 : (order.filterMap (es[·]?)).size = es.size := by rw [rowsN_length _ _ r1, r2.length_eq, hsl]
  rw [setRelay_eq]
  refine wpAny_bind (wpAny_setState_of ho hd hfits ?_)
  dsimp only
  refine wp_if_neg (by rw [sizeLine_eq]; omega) ?_
  try refine wpAny_bind (wpAny_pure ?_)
  rw [e]
  dsimp only
  refine wpAny_bind (wp_if_neg (by rw [hs2]; simp) ?_)
  try refine wpAny_bind (wpAny_pure ?_)
  refine wpAny_pure ?_
  dsimp only
  refine wpAny_storeSet_of ho hd ?_ (by rw [hs2, hsl, sizeLine_eq]; omega)
  have sb : Heap.SameBut a s.heap (s.heap.update a (Obj.putSet (order.filterMap (es[·]?)) t')) := Heap.SameBut.update ..
  refine hQ _ L2 (order.filterMap (es[·]?)) (ep + 1) t' sb ?_ r2
  refine ⟨⟨_, store_at ho hd, ⟨hex.1, hex.2.1, hex.2.2⟩, rfl⟩, r1, T, ?_, fun p hpm => (tup p (r2.mem_iff.mp hpm)).same ho hd sb, by rw [ep']; exact pl, by rw [el]; exact ld, ?_, by rw [r2.length_eq]; exact few⟩
  · exact (r2.map (·.2)).nodup_iff.mpr nd
  · rw [r2.length_eq, em]
    exact hn
/-- an element more -/
theorem addN (R : SetN w s.heap a L es ep t) {x : Addr} {k : NestedKey} (hx : IsN s.heap k x) (hu : A.units + 8 < cLine) (hfew : L.length + 1 < 64) {Q : Bool → Shared → Prop}
    (hQ : ∀ b h' L' es' ep' t', Heap.SameBut a s.heap h' → SetN w h' a L' es' ep' t' → (k ∈ L.map (·.2) → L' = L) → (k ∉ L.map (·.2) → L'.Perm ((x, k) :: L)) → Q b { s with heap := h' }) :
    wpAny (model P w) A (setAddHashed a (.ref x) (k.hash w)) Q E s := by
  obtain ⟨o, ho, hex, hd⟩ := R.ob
  have hsl := R.size
  have hroom := R.room
  unfold setAddHashed
  refine wpAny_holding ?_
  rw [show (100000 : Nat) = 99999 + 1 from rfl, setAddHashedIn_succ]
  refine wpAny_bind (wpAny_setState_of ho hd R.fits ?_)
  dsimp only
  refine wp_if_neg (by simp [byScan, Value.scannable]) ?_
  try refine wpAny_bind (wpAny_pure ?_)
  refine wpAny_bind (searchN_at R hx hu (fun hm => ?_) fun K hm hK hb => ?_)
  · dsimp only
    exact wpAny_pure (hQ false s.heap L es ep t (Heap.SameBut.refl a s.heap) R (fun _ => rfl) fun z => absurd hm z)
  · dsimp only
    refine wpAny_bind (wpAny_setState_of ho hd R.fits ?_)
    dsimp only
    obtain ⟨q1, q2, q3, q4, q5, q6, q7, q8, q9⟩ := R.tab.put hK hb
    have hp1 : (t.put (way t.mask (k.hash w) K)).1.plain = true := by rw [q6]; exact R.plain
    generalize hpt : t.put (way t.mask (k.hash w) K) = pt at q1 q3 q4 q5 q6 q7 q8 q9 hp1 ⊢
    obtain ⟨t1, p⟩ := pt
    dsimp only at q1 q3 q4 q5 q6 q7 q8 q9 hp1 ⊢
    subst q1
    first
      | (refine wpAny_bind ?_; refine wp_if_pos hp1 ?_; refine hashByN k _ 8 s _ _ _ hx.is hx.dp hx.nm ?_)
      | refine wp_if_pos hp1 (wpAny_bind (hashByN k _ 8 s _ _ _ hx.is hx.dp hx.nm ?_))
    simp only [if_true]
    have hin : (SetTable.insertAt es (SetTable.below t.place (way t.mask (k.hash w) K)) (k.hash w, Value.ref x)).toList = rowsN w (L.take (SetTable.below t.place (way t.mask (k.hash w) K)) ++ (x, k) :: L.drop (SetTable.below t.place (way t.mask (k.hash w) K))) := by
      rw [SetTable.toList_insertAt, R.rows]
      unfold rowsN
      rw [List.map_append, List.map_cons, List.map_take, List.map_drop]
    generalize hpp : SetTable.below t.place (way t.mask (k.hash w) K) = p at q2 q3 hin ⊢
    have pm := put_perm L p (x, k)
    have hlen : (L.take p ++ (x, k) :: L.drop p).length = L.length + 1 := pm.length_eq
    have hhs : (L.take p ++ (x, k) :: L.drop p).map (fun p => p.2.hash w) = (L.map fun p => p.2.hash w).take p ++ k.hash w :: (L.map fun p => p.2.hash w).drop p := by
      rw [List.map_append, List.map_cons, List.map_take, List.map_drop]
    rw [← hhs] at q3
    have nd1 : ((L.take p ++ (x, k) :: L.drop p).map (·.2)).Nodup := by
      refine (pm.map (·.2)).nodup_iff.mpr ?_
      rw [List.map_cons]
      exact List.nodup_cons.mpr ⟨hm, R.nd⟩
    have hes := (rowsN_length _ _ hin).trans hlen
    generalize SetTable.insertAt es p (k.hash w, Value.ref x) = es1 at hin hes ⊢
    generalize L.take p ++ (x, k) :: L.drop p = L1 at pm hlen q3 nd1 hin
    refine wpAny_bind (wpAny_storeSet_of ho hd ?_ (by rw [hes, sizeLine_eq]; omega))
    have sb : Heap.SameBut a s.heap (s.heap.update a (Obj.putSet es1 t1)) := Heap.SameBut.update ..
    have ho1 := store_at (es' := es1) (t' := t1) ho hd
    generalize s.heap.update a (Obj.putSet es1 t1) = h1 at sb ho1 ⊢
    have tup1 : ∀ p ∈ L1, IsN h1 p.2 p.1 := fun p hp => by
      rcases List.mem_cons.mp (pm.mem_iff.mp hp) with e | hp
      · rw [e]; exact hx.same ho hd sb
      · exact (R.tup p hp).same ho hd sb
    have ld1 : w.params.followText "set-order" = true ∨ t1.led = true := by rw [q5]; exact R.led
    by_cases hf : t1.tooFull = true
    · first
        | (refine wpAny_bind ?_; refine wp_if_pos (by simp [hf]) ?_)
        | (refine wp_if_pos (by simp [hf]) ?_; refine wpAny_bind ?_)
      have hfull : (L.length + 1) * 5 ≥ t1.mask * 3 := by
        have h := hf
        unfold SetTable.tooFull at h
        rw [decide_eq_true_eq, q9, List.length_map] at h
        exact h
      rw [hsl]
      have hsz1 : t1.place.size = es1.size := by
        have h := q3.sz
        rw [List.length_map, hlen] at h
        rw [h, hes]
      have cases2 : (t.mask = 7 ∧ L.length = 4) ∨ (t.mask = 31 ∧ L.length = 18) := by
        rcases R.tab.mok with e | e | e
        · left; rw [q4, e] at hfull; rw [e] at hroom; exact ⟨e, by omega⟩
        · right; rw [q4, e] at hfull; rw [e] at hroom; exact ⟨e, by omega⟩
        · exfalso; rw [q4, e] at hfull; omega
      have go : ∀ M, SetTable.sizeAbove (SetTable.grown (L.length + 1)) - 1 = M → MaskOk M → SetTable.sizeAbove (SetTable.grown (L.length + 1)) ≤ 128 → (L.length + 1) * 5 < M * 3 →
          wpAny (model P w) A (setRelay a (SetTable.grown (L.length + 1))) (fun _ s' => wpAny (model P w) A (pure true) Q E s') E { s with heap := h1 } := fun M h1' h2' h3' h4' => by
        refine relayN (s := { s with heap := h1 }) ho1 ⟨hex.1, hex.2.1, hex.2.2⟩ rfl hin hsz1 q3.dm (by rw [hes, q4]; rcases cases2 with ⟨e, e2⟩ | ⟨e, e2⟩ <;> omega) nd1 tup1 hp1 ld1 (by rw [hlen]; exact hfew) h1' h2' h3' (by rw [hlen]; exact h4') ?_
        intro h2 L2 es2 ep2 t2 sb2 R2 pm2
        exact wpAny_pure (hQ true h2 L2 es2 ep2 t2 (sb.trans sb2) R2 (fun z => absurd z hm) fun _ => pm2.trans pm)
      rcases cases2 with ⟨_, e2⟩ | ⟨_, e2⟩
      · exact go 31 (by rw [e2, size_20]) (.inr (.inl rfl)) (by rw [e2, size_20]; decide) (by omega)
      · exact go 127 (by rw [e2, size_76]) (.inr (.inr rfl)) (by rw [e2, size_76]; decide) (by omega)
    · first
        | refine wp_if_neg (by simp [hf]) ?_
        | (refine wpAny_bind ?_; refine wp_if_neg (by simp [hf]) ?_; refine wpAny_pure ?_)
      refine wpAny_pure (hQ true h1 L1 es1 (ep + 1) t1 sb ⟨⟨_, ho1, ⟨hex.1, hex.2.1, hex.2.2⟩, rfl⟩, hin, q3, nd1, tup1, hp1, ld1, ?_, by rw [hlen]; exact hfew⟩ (fun z => absurd z hm) fun _ => pm)
      have h := hf
      unfold SetTable.tooFull at h
      rw [decide_eq_true_eq, q9, List.length_map] at h
      rw [hlen]
      omega

/-- what the set has of the first i items -/
structure GotN (ks : List (Addr × NestedKey)) (i : Nat) (L : List (Addr × NestedKey)) : Prop where
  sub : ∀ p ∈ L, p ∈ ks.take i
  all : ∀ p ∈ ks.take i, p.2 ∈ L.map (·.2)
  len : L.length ≤ i
theorem GotN.step {ks L L' : List (Addr × NestedKey)} {i : Nat} {x : Addr × NestedKey} (g : GotN ks i L) (h : ks[i]? = some x) (c1 : x.2 ∈ L.map (·.2) → L' = L) (c2 : x.2 ∉ L.map (·.2) → L'.Perm (x :: L)) : GotN ks (i + 1) L' := by
  have ht : ks.take (i + 1) = ks.take i ++ [x] := take_next h
  by_cases hm : x.2 ∈ L.map (·.2)
  · rw [c1 hm]
    refine ⟨fun p hp => ?_, fun p hp => ?_, Nat.le_succ_of_le g.len⟩
    · rw [ht]
      exact List.mem_append_left _ (g.sub p hp)
    · rw [ht] at hp
      rcases List.mem_append.mp hp with z | z
      · exact g.all p z
      · rw [List.mem_singleton.mp z]; exact hm
  · have pm := c2 hm
    refine ⟨fun p hp => ?_, fun p hp => ?_, ?_⟩
    · rw [ht]
      rcases List.mem_cons.mp (pm.mem_iff.mp hp) with e | z
      · rw [e]; exact List.mem_append_right _ (List.mem_singleton.mpr rfl)
      · exact List.mem_append_left _ (g.sub p z)
    · rw [(pm.map (·.2)).mem_iff, List.map_cons]
      rw [ht] at hp
      rcases List.mem_append.mp hp with z | z
      · exact List.mem_cons_of_mem _ (g.all p z)
      · rw [List.mem_singleton.mp z]; exact List.mem_cons_self
    · rw [pm.length_eq, List.length_cons]
      exact Nat.succ_le_succ g.len
theorem SetN.keep {h h' : Heap} (R : SetN w h a L es ep t) (ha : ∀ o, h.get? a = some o → h'.get? a = some o) (ht : ∀ p ∈ L, IsN h' p.2 p.1) : SetN w h' a L es ep t := by
  obtain ⟨o, ho, r⟩ := R.ob
  exact ⟨⟨o, ha o ho, r⟩, R.rows, R.tab, R.nd, ht, R.plain, R.led, R.room, R.few⟩
theorem setN_fresh {h : Heap} (ho : h.get? a = some { cls := .type "set", dict := none, data := .set #[] 0 (.fresh 0 0 (!w.params.followText "set-order")) }) : SetN w h a [] #[] 0 (.fresh 0 0 (!w.params.followText "set-order")) where
  ob := ⟨_, ho, ⟨rfl, rfl, rfl⟩, rfl⟩
  rows := rfl
  tab := ⟨List.Pairwise.nil, rfl, rfl, .inl rfl, fun x hx => (by cases hx), fun i h j hi => (by simp at hi)⟩
  nd := List.nodup_nil
  tup := fun p hp => (by cases hp)
  plain := rfl
  led := by
    show _ ∨ (!w.params.followText "set-order") = true
    cases w.params.followText "set-order"
    · exact .inr rfl
    · exact .inl rfl
  room := by
    show 0 * 5 < 7 * 3
    decide
  few := by
    show 0 < 64
    decide
/-- set.update's loop -/
theorem updateN {I : Addr} {fp wr : List Addr} {G : Array GenState → Array GenState → Prop} {n : Nat} {Pv : Nat → Value → Prop} {St : Nat → Shared → Prop} {R : Result → Shared → Prop}
    (W : WalksS P w A.in1 I fp wr G n Pv St) (S : Addr) (hSf : S ∉ fp) (ks : List (Addr × NestedKey)) (hn : n = ks.length) (hfew : ks.length < 64) (hval : ∀ i v, Pv i v → ∃ p, ks[i]? = some p ∧ v = .ref p.1)
    (h0 : Heap) (hk : ∀ p ∈ ks, IsN h0 p.2 p.1) (hS0 : h0.get? S = none) (hw0 : ∀ b ∈ wr, h0.get? b = none) (hu : A.in1.units + 8 < cLine) :
    ∀ (k i : Nat) (s : Shared), n - i = k → i ≤ n → St i s → (∀ b o, h0.get? b = some o → s.heap.get? b = some o) → (∃ L es ep t, SetN w s.heap S L es ep t ∧ GotN ks i L) →
      (∀ s' L es ep t, Moved (S :: wr) G s s' → SetN w s'.heap S L es ep t → GotN ks n L → (∀ b o, h0.get? b = some o → s'.heap.get? b = some o) → R (.ok (.ret .none)) s') →
      codeAny (model P w) A (.builtin "set.update.loop" ⟨[.ref S, .ref I], []⟩) R s := by
  have hSw : S ∉ wr := fun h => hSf (W.sub _ h)
  have hsub : ∀ b ∈ wr, b ∈ S :: wr := fun b hb => List.mem_cons_of_mem _ hb
  have keepM : ∀ {s s' : Shared}, Moved wr G s s' → (∀ b o, h0.get? b = some o → s.heap.get? b = some o) → ∀ b o, h0.get? b = some o → s'.heap.get? b = some o := fun hm hkp b o e =>
    hm.heap b o (fun hb => by rw [hw0 b hb] at e; cases e) (hkp b o e)
  intro k
  induction k with
  | zero =>
    intro i s hk' hi hst hkp ⟨L, es, ep, t, hS, g⟩ hR
    have hin : i = n := by omega
    subst hin
    refine codeAny_builtin F.entry_set_update_loop ?_
    rw [Around.under_plainId F.plain_set_update_loop _]
    show wpAny _ A.in1 (pyNext (.ref I) >>= _) _ _ s
    refine wpAny_bind (W.done s _ _ hst fun s' hm => ?_)
    show wpAny _ A.in1 (ret Value.none) _ _ s'
    have hkp' := keepM hm hkp
    have sub : ∀ p ∈ L, p ∈ ks := fun p hp => List.mem_of_mem_take (g.sub p hp)
    exact wpAny_pure (hR s' L es ep t (hm.mono hsub) (hS.keep (fun o e => hm.heap S o hSw e) fun p hp => (hk p (sub p hp)).keep hkp') g hkp')
  | succ k ih =>
    intro i s hk' hi hst hkp ⟨L, es, ep, t, hS, g⟩ hR
    have hlt : i < n := by omega
    refine codeAny_builtin F.entry_set_update_loop ?_
    rw [Around.under_plainId F.plain_set_update_loop _]
    show wpAny _ A.in1 (pyNext (.ref I) >>= _) _ _ s
    refine wpAny_bind (W.item i s _ _ hlt hst fun v s' hP hst' hm => ?_)
    obtain ⟨p, hp, rfl⟩ := hval i v hP
    have hkp' := keepM hm hkp
    have sub : ∀ p ∈ L, p ∈ ks := fun p hp => List.mem_of_mem_take (g.sub p hp)
    have hS' : SetN w s'.heap S L es ep t := hS.keep (fun o e => hm.heap S o hSw e) fun q hq => (hk q (sub q hq)).keep hkp'
    have hx : IsN s'.heap p.2 p.1 := (hk p (List.mem_of_getElem? hp)).keep hkp'
    show wpAny _ A.in1 (holding [Value.ref p.1] (setAdd S (.ref p.1)) >>= _) _ _ s'
    refine wpAny_bind (wpAny_holding ?_)
    unfold setAdd
    refine wpAny_holding ?_
    refine wpAny_bind (pyHash_key p.2 _ A.in1 s' _ hx.is (by have := hx.dp; omega) ?_)
    refine addN (s := { s' with toks := s'.toks + p.2.draws }) hS' hx hu (by have := g.len; omega) fun b h' L' es' ep' t' hsb hS2 c1 c2 => ?_
    have g' := g.step hp c1 c2
    have hkp2 : ∀ b o, h0.get? b = some o → h'.get? b = some o := fun b o e => (hsb.2 b (fun z => by rw [z, hS0] at e; cases e)).trans (hkp' b o e)
    refine wpAny_pure ⟨plainId_quiet F.plain_set_update_loop _, ih (i + 1) _ (by omega) hlt (W.frame _ s' _ _ hst' (Nat.le_add_right _ _) fun b hb o e => ?_) hkp2 ⟨L', es', ep', t', hS2, g'⟩ fun s'' L2 es2 ep2 t2 hm'' hS'' g'' hkp'' => ?_⟩
    · rw [hsb.2 b (fun h : b = S => hSf (by rw [← h]; exact hb))]; exact e
    · refine hR s'' L2 es2 ep2 t2 (Moved.trans W.gtrans ((hm.mono hsub).then_heap (Nat.le_add_right _ _) fun b o hb e => ?_) hm'') hS'' g'' hkp''
      rw [hsb.2 b (fun h : b = S => hb (by rw [h]; exact List.mem_cons_self))]; exact e
end
end Mini
/-! Mini, part 11: set(xs) (printed by gen_set3.py). -/
namespace Mini
open PySem PySem.Spec PyProof.Rows L2
section
variable {P : Program} {w : World} {A : Around} {E : Value → Shared → Prop} {s : Shared}
set_option maxHeartbeats 8000000 in
/-- set(xs), xs a list -/
theorem call_setN_list {l : Addr} {items : Array Value} (ks : List (Addr × NestedKey)) {Q : Value → Shared → Prop} (hh : A.handled = none) (hl : s.heap.IsList l items) (hit : items.toList = ks.map fun p => Value.ref p.1)
    (hk : ∀ p ∈ ks, IsN s.heap p.2 p.1) (hfew : ks.length < 64) (hu : A.units + 12 < cLine)
    (h : ∀ (h' : Heap) (tk : Nat) L es ep t, SetN w h' s.heap.objs.size L es ep t → GotN ks ks.length L → (∀ b o, s.heap.get? b = some o → h'.get? b = some o) → Q (.ref s.heap.objs.size) { s with heap := h', toks := tk }) :
    wpAny (model P w) A (call (.type "set") [.ref l]) Q E s := by
  have hisz : items.size = ks.length := by
    have q := congrArg List.length hit
    rw [Array.length_toList, List.length_map] at q
    exact q
  obtain ⟨c, tl, hmro⟩ := F.called_set.mro
  have hmade := F.called_set.made
  have hsub := F.called_set.sub
  refine wpAny_call (codeAny_of_tree ?_)
  show wpAny _ _ (callAny (.type "set") _) _ _ _
  refine wpAny_pure ⟨Code.quiet_builtin _ (by decide +kernel), codeAny_builtin F.entry_type_call ?_⟩
  rw [Around.under_plain (weight_type_call_type "set" [.ref l] []) rfl]
  have h1 := F.called_set.notType
  have h2 := F.called_set.canCreate
  have hct := F.typeCall_set_1 (.ref l)
  repeat (any_goals (first | assumption | wp_step))
  refine codeAny_mono (code_set_led1 (.ref l) (E := E) (Q₁ := fun obj s₁ => obj = .ref s.heap.objs.size ∧ s₁ = { s with heap := s.heap.push { cls := .type "set", dict := none, data := .set #[] 0 (.fresh 0 0 (!w.params.followText "set-order")) } }) ⟨rfl, rfl⟩) fun r s₁ hr => ?_
  cases r with
  | error e => exact hr
  | ok fl =>
    cases fl with
    | ret obj =>
      obtain ⟨rfl, rfl⟩ := hr
      have hS : (s.heap.push { cls := .type "set", dict := none, data := .set #[] 0 (.fresh 0 0 (!w.params.followText "set-order")) }).get? s.heap.objs.size = some { cls := .type "set", dict := none, data := .set #[] 0 (.fresh 0 0 (!w.params.followText "set-order")) } := Heap.get?_push_size _ rfl
      have hT : Shared.TypeIs { s with heap := s.heap.push { cls := .type "set", dict := none, data := .set #[] 0 (.fresh 0 0 (!w.params.followText "set-order")) } } (.ref s.heap.objs.size) "set" := ⟨_, hS, rfl⟩
      have hli := F.called_set.init.lookup
      have hbi := F.called_set.init.bind (.ref s.heap.objs.size)
      repeat (any_goals (first | assumption | wp_step))
      refine codeAny_mono (codeAny_call_builtin (R := wants (fun r s₂ => r = .none ∧ ∃ h' tk L es ep t, s₂ = { s with heap := h', toks := tk } ∧ SetN w h' s.heap.objs.size L es ep t ∧ GotN ks ks.length L ∧
          (∀ b o, s.heap.get? b = some o → h'.get? b = some o)) E) F.called_set.init.plain F.entry_set_init (check_set_init_1 hT ?_)) fun r₂ s₂ hr₂ => ?_
      · obtain ⟨ol, hol, hcl, nl, hdl⟩ := hl
        obtain ⟨ocls, odict, odata, oslots⟩ := ol
        simp only at hcl hdl
        subst hcl; subst hdl
        have hol' : (s.heap.push { cls := .type "set", dict := none, data := .set #[] 0 (.fresh 0 0 (!w.params.followText "set-order")) }).get? l = some { cls := .type "list", dict := odict, data := .seq items nl, slots := oslots } := Heap.get?_push_of_some _ hol
        have hsls := F.sub_list_set
        have hslf := F.sub_list_frozenset
        have hne : (Value.type "list" == Value.type "dict") = false := by decide
        have hl1 : (s.heap.push { cls := .type "set", dict := none, data := .set #[] 0 (.fresh 0 0 (!w.params.followText "set-order")) }).IsList l items := ⟨_, hol', rfl, nl, rfl⟩
        unfold Builtin.«set.__init__» noKeywords Builtin.Frozenset.updateFrom
        generalize hPI : pyIter = PI
        wp_walk
        subst hPI
        refine wpAny_pyIter_list hl1 ?_
        refine wpAny_bind (wpAny_runValue ?_)
        have hlS : l < s.heap.objs.size := Heap.lt_size hol
        have hh3 : A.in1.in1.in1.handled = none := by simp [hh]
        have hneI : l ≠ (s.heap.push { cls := .type "set", dict := none, data := .set #[] 0 (.fresh 0 0 (!w.params.followText "set-order")) }).objs.size := by
          rw [Heap.size_push]; exact Nat.ne_of_lt (Nat.lt_succ_of_lt hlS)
        have hSf : s.heap.objs.size ∉ [(s.heap.push { cls := .type "set", dict := none, data := .set #[] 0 (.fresh 0 0 (!w.params.followText "set-order")) }).objs.size, l] := by
          rw [Heap.size_push]; simp only [List.mem_cons, List.mem_singleton, List.not_mem_nil, or_false, not_or]
          exact ⟨Nat.ne_of_lt (Nat.lt_succ_self _), Nat.ne_of_gt hlS⟩
        have hval : ∀ (i : Nat) (v : Value), items[i]? = some v → ∃ p, ks[i]? = some p ∧ v = .ref p.1 := fun i v hv => by
          have q : items.toList[i]? = some v := by rw [Array.getElem?_toList]; exact hv
          rw [hit, List.getElem?_map] at q
          cases hq : ks[i]? with
          | none => rw [hq] at q; cases q
          | some p =>
            rw [hq] at q
            exact ⟨p, rfl, (Option.some.inj q).symm⟩
        have none_of : ∀ b, s.heap.objs.size ≤ b → s.heap.get? b = none := fun b hb => by
          cases q : s.heap.get? b with
          | none => rfl
          | some o => exact absurd (Nat.lt_of_lt_of_le (Heap.lt_size q) hb) (Nat.lt_irrefl _)
        refine updateN ((Walks.list hh3 _ l hneI items).toS) s.heap.objs.size
          hSf ks hisz hfew hval s.heap hk (none_of _ (Nat.le_refl _)) (fun b hb => none_of b (by
            rw [List.mem_singleton.mp hb, Heap.size_push]
            exact Nat.le_succ _)) (by show A.units + 1 + 1 + 1 + 8 < cLine; omega) (items.size - 0) 0 _ (by omega) (Nat.zero_le _)
          ⟨⟨_, Heap.get?_push_size _ rfl, rfl, rfl⟩, (hl1.push _)⟩ (fun b o e => Heap.get?_push_of_some _ (Heap.get?_push_of_some _ e)) ?hS0 ?hR
        case hS0 => exact ⟨[], #[], 0, _, setN_fresh (Heap.get?_push_of_some _ hS), ⟨fun p h => (by cases h), fun p h => (by simp at h), Nat.le_refl _⟩⟩
        case hR =>
          intro s' L es ep t hm hS' g' hkp
          obtain ⟨h', g2, d', tk', os'⟩ := s'
          have eg : g2 = s.gens := hm.gens
          have ed : d' = s.drawn := hm.drawn
          have eo : os' = s.os := hm.os
          subst eg; subst ed; subst eo
          show wpAny _ _ _ _ _ _
          refine wpAny_pure ?_
          show wpAny _ _ (ret Value.none) _ _ _
          rw [hisz] at g'
          exact wpAny_pure ⟨rfl, h', tk', L, es, ep, t, rfl, hS', g', hkp⟩
      · cases r₂ with
        | error e => exact hr₂
        | ok fl₂ =>
          cases fl₂ with
          | ret r =>
            obtain ⟨rfl, h', tk, L, es, ep, t, rfl, hS', g', hk'⟩ := hr₂
            repeat (any_goals (first | assumption | wp_step))
            exact h _ _ _ _ _ _ hS' g' hk'
          | _ => exact hr₂.elim
    | _ => exact hr.elim

set_option maxHeartbeats 8000000 in
/-- set(xs), xs a tuple -/
theorem call_setN_tuple {l : Addr} {items : Array Value} (ks : List (Addr × NestedKey)) {Q : Value → Shared → Prop} (hh : A.handled = none) (hl : s.heap.IsTuple l items) (hit : items.toList = ks.map fun p => Value.ref p.1)
    (hk : ∀ p ∈ ks, IsN s.heap p.2 p.1) (hfew : ks.length < 64) (hu : A.units + 12 < cLine)
    (h : ∀ (h' : Heap) (tk : Nat) L es ep t, SetN w h' s.heap.objs.size L es ep t → GotN ks ks.length L → (∀ b o, s.heap.get? b = some o → h'.get? b = some o) → Q (.ref s.heap.objs.size) { s with heap := h', toks := tk }) :
    wpAny (model P w) A (call (.type "set") [.ref l]) Q E s := by
  have hisz : items.size = ks.length := by
    have q := congrArg List.length hit
    rw [Array.length_toList, List.length_map] at q
    exact q
  obtain ⟨c, tl, hmro⟩ := F.called_set.mro
  have hmade := F.called_set.made
  have hsub := F.called_set.sub
  refine wpAny_call (codeAny_of_tree ?_)
  show wpAny _ _ (callAny (.type "set") _) _ _ _
  refine wpAny_pure ⟨Code.quiet_builtin _ (by decide +kernel), codeAny_builtin F.entry_type_call ?_⟩
  rw [Around.under_plain (weight_type_call_type "set" [.ref l] []) rfl]
  have h1 := F.called_set.notType
  have h2 := F.called_set.canCreate
  have hct := F.typeCall_set_1 (.ref l)
  repeat (any_goals (first | assumption | wp_step))
  refine codeAny_mono (code_set_led1 (.ref l) (E := E) (Q₁ := fun obj s₁ => obj = .ref s.heap.objs.size ∧ s₁ = { s with heap := s.heap.push { cls := .type "set", dict := none, data := .set #[] 0 (.fresh 0 0 (!w.params.followText "set-order")) } }) ⟨rfl, rfl⟩) fun r s₁ hr => ?_
  cases r with
  | error e => exact hr
  | ok fl =>
    cases fl with
    | ret obj =>
      obtain ⟨rfl, rfl⟩ := hr
      have hS : (s.heap.push { cls := .type "set", dict := none, data := .set #[] 0 (.fresh 0 0 (!w.params.followText "set-order")) }).get? s.heap.objs.size = some { cls := .type "set", dict := none, data := .set #[] 0 (.fresh 0 0 (!w.params.followText "set-order")) } := Heap.get?_push_size _ rfl
      have hT : Shared.TypeIs { s with heap := s.heap.push { cls := .type "set", dict := none, data := .set #[] 0 (.fresh 0 0 (!w.params.followText "set-order")) } } (.ref s.heap.objs.size) "set" := ⟨_, hS, rfl⟩
      have hli := F.called_set.init.lookup
      have hbi := F.called_set.init.bind (.ref s.heap.objs.size)
      repeat (any_goals (first | assumption | wp_step))
      refine codeAny_mono (codeAny_call_builtin (R := wants (fun r s₂ => r = .none ∧ ∃ h' tk L es ep t, s₂ = { s with heap := h', toks := tk } ∧ SetN w h' s.heap.objs.size L es ep t ∧ GotN ks ks.length L ∧
          (∀ b o, s.heap.get? b = some o → h'.get? b = some o)) E) F.called_set.init.plain F.entry_set_init (check_set_init_1 hT ?_)) fun r₂ s₂ hr₂ => ?_
      · obtain ⟨ol, hol, hcl, nl, hdl⟩ := hl
        obtain ⟨ocls, odict, odata, oslots⟩ := ol
        simp only at hcl hdl
        subst hcl; subst hdl
        have hol' : (s.heap.push { cls := .type "set", dict := none, data := .set #[] 0 (.fresh 0 0 (!w.params.followText "set-order")) }).get? l = some { cls := .type "tuple", dict := odict, data := .seq items nl, slots := oslots } := Heap.get?_push_of_some _ hol
        have hsls := F.sub_tuple_set
        have hslf := F.sub_tuple_frozenset
        have hne : (Value.type "tuple" == Value.type "dict") = false := by decide
        have hl1 : (s.heap.push { cls := .type "set", dict := none, data := .set #[] 0 (.fresh 0 0 (!w.params.followText "set-order")) }).IsTuple l items := ⟨_, hol', rfl, nl, rfl⟩
        unfold Builtin.«set.__init__» noKeywords Builtin.Frozenset.updateFrom
        generalize hPI : pyIter = PI
        wp_walk
        subst hPI
        refine wpAny_pyIter_tuple hl1 ?_
        refine wpAny_bind (wpAny_runValue ?_)
        have hlS : l < s.heap.objs.size := Heap.lt_size hol
        have hh3 : A.in1.in1.in1.handled = none := by simp [hh]
        have hneI : l ≠ (s.heap.push { cls := .type "set", dict := none, data := .set #[] 0 (.fresh 0 0 (!w.params.followText "set-order")) }).objs.size := by
          rw [Heap.size_push]; exact Nat.ne_of_lt (Nat.lt_succ_of_lt hlS)
        have hSf : s.heap.objs.size ∉ [(s.heap.push { cls := .type "set", dict := none, data := .set #[] 0 (.fresh 0 0 (!w.params.followText "set-order")) }).objs.size, l] := by
          rw [Heap.size_push]; simp only [List.mem_cons, List.mem_singleton, List.not_mem_nil, or_false, not_or]
          exact ⟨Nat.ne_of_lt (Nat.lt_succ_self _), Nat.ne_of_gt hlS⟩
        have hval : ∀ (i : Nat) (v : Value), items[i]? = some v → ∃ p, ks[i]? = some p ∧ v = .ref p.1 := fun i v hv => by
          have q : items.toList[i]? = some v := by rw [Array.getElem?_toList]; exact hv
          rw [hit, List.getElem?_map] at q
          cases hq : ks[i]? with
          | none => rw [hq] at q; cases q
          | some p =>
            rw [hq] at q
            exact ⟨p, rfl, (Option.some.inj q).symm⟩
        have none_of : ∀ b, s.heap.objs.size ≤ b → s.heap.get? b = none := fun b hb => by
          cases q : s.heap.get? b with
          | none => rfl
          | some o => exact absurd (Nat.lt_of_lt_of_le (Heap.lt_size q) hb) (Nat.lt_irrefl _)
        refine updateN ((Walks.tuple hh3 _ l hneI items).toS) s.heap.objs.size
          hSf ks hisz hfew hval s.heap hk (none_of _ (Nat.le_refl _)) (fun b hb => none_of b (by
            rw [List.mem_singleton.mp hb, Heap.size_push]
            exact Nat.le_succ _)) (by show A.units + 1 + 1 + 1 + 8 < cLine; omega) (items.size - 0) 0 _ (by omega) (Nat.zero_le _)
          ⟨⟨_, Heap.get?_push_size _ rfl, rfl, rfl⟩, (hl1.push _)⟩ (fun b o e => Heap.get?_push_of_some _ (Heap.get?_push_of_some _ e)) ?hS0 ?hR
        case hS0 => exact ⟨[], #[], 0, _, setN_fresh (Heap.get?_push_of_some _ hS), ⟨fun p h => (by cases h), fun p h => (by simp at h), Nat.le_refl _⟩⟩
        case hR =>
          intro s' L es ep t hm hS' g' hkp
          obtain ⟨h', g2, d', tk', os'⟩ := s'
          have eg : g2 = s.gens := hm.gens
          have ed : d' = s.drawn := hm.drawn
          have eo : os' = s.os := hm.os
          subst eg; subst ed; subst eo
          show wpAny _ _ _ _ _ _
          refine wpAny_pure ?_
          show wpAny _ _ (ret Value.none) _ _ _
          rw [hisz] at g'
          exact wpAny_pure ⟨rfl, h', tk', L, es, ep, t, rfl, hS', g', hkp⟩
      · cases r₂ with
        | error e => exact hr₂
        | ok fl₂ =>
          cases fl₂ with
          | ret r =>
            obtain ⟨rfl, h', tk, L, es, ep, t, rfl, hS', g', hk'⟩ := hr₂
            repeat (any_goals (first | assumption | wp_step))
            exact h _ _ _ _ _ _ hS' g' hk'
          | _ => exact hr₂.elim
    | _ => exact hr.elim
end
end Mini
/-! Mini, part 12: set(..), sorted(..), len of a set. -/
namespace Mini
open PySem PySem.Spec PySem.W PyProof.Rows L2

/-! ### keys in the heap -/
mutual
theorem nested_of {Y : Lay} {ι : Nat → Addr} {n : Nat} {X : Cx} {pins : List (Addr × Obj)} {σ : L2.St} {H : Hp} {s : Shared} (I : Inv X pins σ H s) : ∀ {v : MV} {x : V} {u : Value} {k : NestedKey}, Rep Y ι n H v x → RelV x u → v.key = some k → NestedIs s.heap k u
  | _, _, _, _, .non, r, h => by cases r; cases h; exact .none
  | _, _, _, _, .bl b, r, h => by cases r; cases h; exact .bool rfl
  | _, _, _, _, .int i, r, h => by obtain ⟨t, rfl⟩ := r; cases h; exact .int _ _
  | _, _, _, _, .str x, r, h => by obtain ⟨t, rfl⟩ := r; cases h; exact .text _ _
  | _, _, _, _, .tup e ra, r, h => by
    simp only [MV.key, Option.map_eq_some_iff] at h
    obtain ⟨ks, hk, rfl⟩ := h
    cases r
    obtain ⟨its, rv, ⟨o, ho, hc, m, hd⟩, hz⟩ := I.tuple (SqT.of (K := X.K) e)
    exact .tup ho hc hd (nested_all I ra (by simpa using rv) hk)
  | _, _, _, _, .fl _ _ _, _, h => by simp [MV.key] at h
  | _, _, _, _, .sc _ _ _, _, h => by simp [MV.key] at h
  | _, _, _, _, .fd _ _ _ _ _, _, h => by simp [MV.key] at h
  | _, _, _, _, .fs _ _ _ _ _, _, h => by simp [MV.key] at h
  | _, _, _, _, .fi _ _ _ _, _, h => by simp [MV.key] at h
  | _, _, _, _, .ex0 _ _, _, h => by simp [MV.key] at h
  | _, _, _, _, .ex1 _ _ _ _ _, _, h => by simp [MV.key] at h
  | _, _, _, _, .ref _, _, h => by simp [MV.key] at h
theorem nested_all {Y : Lay} {ι : Nat → Addr} {n : Nat} {X : Cx} {pins : List (Addr × Obj)} {σ : L2.St} {H : Hp} {s : Shared} (I : Inv X pins σ H s) : ∀ {vs : List MV} {xs : List V} {us : List Value} {ks : List NestedKey}, RepAll Y ι n H vs xs → Vals xs us → keyAll vs = some ks → NestedAll s.heap ks us
  | _, _, _, _, .nil, .nil, h => by cases h; exact .nil
  | _, _, _, _, .cons (x := v) r rs, .cons q qs, h => by
    unfold keyAll at h
    cases e1 : v.key with
    | none => simp [e1] at h
    | some k =>
      cases e2 : keyAll _ with
      | none => simp only [e1] at h; rw [e2] at h; cases h
      | some ks =>
        simp only [e1] at h
        rw [e2] at h
        cases h
        exact .cons (nested_of I r q e1) (nested_all I rs qs e2)
end

/-! ### lists side by side -/
theorem each_perm {α β : Type} {R : α → β → Prop} {as as' : List α} (p : as'.Perm as) : ∀ {bs : List β}, EachIs R as bs → ∃ bs', bs'.Perm bs ∧ EachIs R as' bs' := by
  induction p with
  | nil => intro bs e; exact ⟨bs, .refl _, e⟩
  | cons x _ ih =>
    intro bs e
    cases e with
    | cons h t =>
      obtain ⟨bs', p, e'⟩ := ih t
      exact ⟨_ :: bs', p.cons _, .cons h e'⟩
  | swap x y l =>
    intro bs e
    cases e with
    | cons h1 t =>
      cases t with
      | cons h2 t => exact ⟨_, .swap _ _ _, .cons h2 (.cons h1 t)⟩
  | trans _ _ ih1 ih2 =>
    intro bs e
    obtain ⟨b1, p1, e1⟩ := ih2 e
    obtain ⟨b2, p2, e2⟩ := ih1 e1
    exact ⟨b2, p2.trans p1, e2⟩

/-! ### sorted -/
abbrev sLe : MV → MV → Bool := dataLe false MV.dat
structure SortOk (xs : List MV) : Prop where
  sok : sokAll xs = true
  al : AllAlike (xs.map MV.dat)
  so : Sortable (xs.map MV.dat)
  dp : ∀ x ∈ xs, x.dat.depth ≤ 50
  len : xs.length ≤ sizeLine
theorem sok_mem {xs : List MV} (h : sokAll xs = true) {x : MV} (hx : x ∈ xs) : x.sok = true := by
  induction xs with
  | nil => cases hx
  | cons y ys ih =>
    simp only [sokAll, Bool.and_eq_true] at h
    rcases List.mem_cons.mp hx with e | hx
    · rw [e]; exact h.1
    · exact ih h.2 hx
theorem sok_perm {xs ys : List MV} (p : ys.Perm xs) (h : sokAll xs = true) : sokAll ys = true := by
  have key : ∀ ys : List MV, (∀ y ∈ ys, y.sok = true) → sokAll ys = true := by
    intro ys
    induction ys with
    | nil => intro _; rfl
    | cons y ys ih =>
      intro hy
      simp only [sokAll, Bool.and_eq_true]
      exact ⟨hy y List.mem_cons_self, ih fun z hz => hy z (List.mem_cons_of_mem _ hz)⟩
  exact key ys fun y hy => sok_mem h (p.mem_iff.mp hy)
theorem SortOk.perm {xs ys : List MV} (p : ys.Perm xs) (h : SortOk xs) : SortOk ys where
  sok := sok_perm p h.sok
  al := fun d hd d' hd' => h.al d ((p.map _).mem_iff.mp hd) d' ((p.map _).mem_iff.mp hd')
  so := h.so.imp (fun z d hd => z d ((p.map _).mem_iff.mp hd)) fun z d hd => z d ((p.map _).mem_iff.mp hd)
  dp := fun x hx => h.dp x (p.mem_iff.mp hx)
  len := by rw [p.length_eq]; exact h.len
section
variable {Y : Lay} {W : WX} {X : Cx} {ι : Nat → Addr} {n : Nat} {H : Hp} {pins : List (Addr × Obj)} {σ : L2.St} {s : Shared}
/-- a value, its abstract value, its value -/
def Tri (Y : Lay) (ι : Nat → Addr) (n : Nat) (H : Hp) (h : Heap) : Value → MV × V → Prop := fun u p => (Rep Y ι n H p.1 p.2 ∧ RelV p.2 u) ∧ ∃ as, Reads h u p.1.dat as
theorem tri_of (I : Inv X pins σ H s) : ∀ {xs : List MV} {ws : List V} {us : List Value}, RepAll Y ι n H xs ws → Vals ws us → sokAll xs = true → EachIs (Tri Y ι n H s.heap) us (xs.zip ws) ∧ (xs.zip ws).map (·.1) = xs
  | _, _, _, .nil, .nil, _ => ⟨.nil, rfl⟩
  | _, _, _, .cons r rs, .cons q qs, h => by
    simp only [sokAll, Bool.and_eq_true] at h
    obtain ⟨e1, e2⟩ := tri_of I rs qs h.2
    refine ⟨.cons ⟨⟨r, q⟩, Dp.reads I _ _ _ (dp_of X.K r h.1) q⟩ e1, ?_⟩
    rw [List.zip_cons_cons, List.map_cons, e2]
theorem tri_back {us : List Value} {bs : List (MV × V)} (e : EachIs (fun u (p : MV × V) => Rep Y ι n H p.1 p.2 ∧ RelV p.2 u) us bs) : RepAll Y ι n H (bs.map (·.1)) (bs.map (·.2)) ∧ Vals (bs.map (·.2)) us := by
  induction e with
  | nil => exact ⟨.nil, .nil⟩
  | cons h t ih => exact ⟨.cons h.1 ih.1, .cons h.2 ih.2⟩
theorem enc_map {bs : List (MV × V)} {xs : List MV} (h : bs.map (·.1) = xs) : bs.map (fun p : MV × V => p.1.dat) = xs.map MV.dat := by rw [← h, List.map_map] <;> rfl
/-- what a sorted copy is -/
theorem sorted_is {us out : List Value} {bs : List (MV × V)} {xs : List MV} (hb : bs.map (·.1) = xs) (e : EachIs (fun u (p : MV × V) => Rep Y ι n H p.1 p.2 ∧ RelV p.2 u) out (bs.mergeSort (dataLe false fun p : MV × V => p.1.dat))) :
    ∃ ws, RepAll Y ι n H (xs.mergeSort sLe) ws ∧ Vals ws out := by
  obtain ⟨r1, r2⟩ := tri_back e
  have z : (bs.mergeSort (dataLe false fun p : MV × V => p.1.dat)).map (·.1) = xs.mergeSort sLe := by
    rw [← hb]
    exact sort_maps (fun p : MV × V => p.1) fun a _ b _ => rfl
  rw [z] at r1
  exact ⟨_, r1, r2⟩
def sortM (vs : List MV) (h : MHp) (Q : MQ) : Prop := ∃ v xs, vs = [v] ∧ lstOf h v = some xs ∧ SortOk xs ∧ Q (.fl (xs.mergeSort sLe)) h
def sortMC (vs : List MV) (h : MHp) (Q : MQ) : Prop := ∃ v xs, vs = [v] ∧ lstOf h v = some xs ∧ SortOk xs ∧ Q (.ref h.length) (h ++ [.lst (xs.mergeSort sLe)])
theorem sort_run {l : Addr} {xs : List MV} {ws : List V} {Q : VK} (hu : X.A.units + 64 < cLine) (I : Inv X pins σ H s) (hl : SqL X.K H l ws) (r : RepAll Y ι n H xs ws) (so : SortOk xs)
    (q : ∀ ws', RepAll Y ι n H (xs.mergeSort sLe) ws' → ∀ p, H p = none → Q (.ref p) (upd H p (.lst ws'))) : wpAny (model X.prog X.w) X.A (call (.builtin "sorted") [.ref l]) (EP X pins σ Q) X.xe s := by
  obtain ⟨its, rv, pl, hz⟩ := I.list hl
  obtain ⟨e1, e2⟩ := tri_of I r rv so.sok
  have hlen : (xs.zip ws).length = xs.length := by rw [← congrArg List.length e2, List.length_map]
  have henc := enc_map e2
  refine sorted_data (R := fun u (p : MV × V) => Rep Y ι n H p.1 p.2 ∧ RelV p.2 u) (enc := fun p : MV × V => p.1.dat) pl.isList (e1.mono fun _ _ z => z.1) (e1.mono fun _ _ z => z.2) (by rw [henc]; exact so.al) (by rw [henc]; exact so.so) (by rw [hlen]; exact so.len)
    (fun b hb => by
      have hm : b.1 ∈ xs := by rw [← e2]; exact List.mem_map.mpr ⟨b, hb, rfl⟩
      have := so.dp _ hm
      omega) fun out ho eo => ?_
  obtain ⟨ws', r1, r2⟩ := sorted_is (us := its) e2 eo
  obtain ⟨c, hc⟩ := sortedAll_at s.heap its out.toArray
  have hn : H (s.heap.objs.size + 1) = none := I.hok.fresh (Nat.le_succ _)
  refine ⟨.ref (s.heap.objs.size + 1), upd H (s.heap.objs.size + 1) (.lst ws'), I.laid (t' := s.toks) (fun b o e => sortedAll_old e) (Nat.le_succ _) ?_, rfl, q ws' r1 _ hn⟩
  refine ⟨?_, out, c, r2, hc⟩
  rw [r2.length, ho, hlen]
  exact so.len
theorem call_sortM (hu : X.A.units + 64 < cLine) : CallR X (.builtin "sorted") (RNM Y sortM) := by
  intro pins s σ H xs us Q I rx ⟨ι, hm, vs, Qm, hr, ra, ⟨v, ys, e, e2, so, q⟩, tq⟩
  subst e
  obtain ⟨x, rfl, r⟩ := rep1 ra
  obtain ⟨p, ws, rfl, sq, rr⟩ := lstOf_rep X.K hr r e2
  rw [Vals.ref1 rx]
  exact sort_run hu I sq rr so fun ws' r' p hp => tq.newL hr r' q hp
theorem call_sortMC (hu : X.A.units + 64 < cLine) : CallR X (.builtin "sorted") (RNM Y sortMC) := by
  intro pins s σ H xs us Q I rx ⟨ι, hm, vs, Qm, hr, ra, ⟨v, ys, e, e2, so, q⟩, tq⟩
  subst e
  obtain ⟨x, rfl, r⟩ := rep1 ra
  obtain ⟨p, ws, rfl, sq, rr⟩ := lstOf_rep X.K hr r e2
  rw [Vals.ref1 rx]
  exact sort_run hu I sq rr so fun ws' r' p hp => tq.newC hr r' q hp

/-! ### sets -/
/-- a value that a set may hold: a tuple of numbers, None, such tuples -/
def setOk (x : MV) : Prop := ∃ xs k, x = .tup xs ∧ x.key = some k ∧ k.depth ≤ 8 ∧ nkNum k = true
/-- set(xs): some one of equal items stays, their order is open -/
def setM (vs : List MV) (h : MHp) (Q : MQ) : Prop := ∃ v xs, vs = [v] ∧ seqOf h v = some xs ∧ xs.length < 64 ∧ (∀ x ∈ xs, setOk x) ∧
  ∀ zs, (∀ z ∈ zs, z ∈ xs) → (∀ x ∈ xs, x.key ∈ zs.map MV.key) → (zs.map MV.key).Nodup → zs.length ≤ xs.length → Q (.fs zs) h
theorem ks_of {H : Hp} (I : Inv X pins σ H s) : ∀ {xs : List MV} {ws : List V} {us : List Value}, RepAll Y ι n H xs ws → Vals ws us → (∀ x ∈ xs, setOk x) →
    ∃ ks : List (Addr × NestedKey), us = ks.map (fun p => Value.ref p.1) ∧ ks.length = xs.length ∧ (∀ p ∈ ks, IsN s.heap p.2 p.1) ∧ (∀ p ∈ ks, ∃ x ∈ xs, Rep Y ι n H x (.ref p.1) ∧ x.key = some p.2) ∧ ∀ x ∈ xs, ∃ p ∈ ks, x.key = some p.2
  | _, _, _, .nil, .nil, _ => ⟨[], rfl, rfl, fun _ h => (nomatch h), fun _ h => (nomatch h), fun _ h => (nomatch h)⟩
  | x :: xs, _, _, .cons r rs, .cons q qs, h => by
    obtain ⟨ks, e, hl, h1, h2, h3⟩ := ks_of I rs qs fun y hy => h y (List.mem_cons_of_mem _ hy)
    obtain ⟨ys, k, rfl, hk, hd, hn⟩ := h x List.mem_cons_self
    have hne := nested_of I r q hk
    cases r with
    | @tup _ vs a ea ra =>
      cases q
      refine ⟨(a, k) :: ks, by rw [e] <;> rfl, by simp [hl], fun p hp => ?_, fun p hp => ?_, fun y hy => ?_⟩
      · rcases List.mem_cons.mp hp with e | hp
        · rw [e]; exact ⟨hne, hd, hn⟩
        · exact h1 p hp
      · rcases List.mem_cons.mp hp with e | hp
        · rw [e]; exact ⟨_, List.mem_cons_self, .tup ea ra, hk⟩
        · obtain ⟨y, hy, r⟩ := h2 p hp
          exact ⟨y, List.mem_cons_of_mem _ hy, r⟩
      · rcases List.mem_cons.mp hy with e | hy
        · rw [e]; exact ⟨_, List.mem_cons_self, hk⟩
        · obtain ⟨p, hp, r⟩ := h3 y hy
          exact ⟨p, List.mem_cons_of_mem _ hp, r⟩
theorem zs_of {xs : List MV} : ∀ {L : List (Addr × NestedKey)}, (∀ p ∈ L, ∃ x ∈ xs, Rep Y ι n H x (.ref p.1) ∧ x.key = some p.2) →
    ∃ zs : List MV, RepAll Y ι n H zs (L.map fun p => V.ref p.1) ∧ zs.map MV.key = L.map (fun p => some p.2) ∧ zs.length = L.length ∧ ∀ z ∈ zs, z ∈ xs
  | [], _ => ⟨[], .nil, rfl, rfl, fun _ h => nomatch h⟩
  | p :: L, h => by
    obtain ⟨zs, a1, a2, a3, a4⟩ := zs_of fun q hq => h q (List.mem_cons_of_mem _ hq)
    obtain ⟨x, hx, r, hk⟩ := h p List.mem_cons_self
    refine ⟨x :: zs, .cons r a1, by rw [List.map_cons, List.map_cons, a2, hk], by simp [a3], fun z hz => ?_⟩
    rcases List.mem_cons.mp hz with e | hz
    · rw [e]; exact hx
    · exact a4 z hz
def entsOf (L : List (Addr × NestedKey)) : List SEnt := L.map fun p => (p.2, V.ref p.1)
theorem sO_new {P : Program} {w : World} {H : Hp} {h : Heap} {a : Addr} {L : List (Addr × NestedKey)} {es : Array (Int × Value)} {ep : Nat} {t : SetTable} (R : SetN w h a L es ep t) : ObjOk P w H h a (sO w a (entsOf L)) := by
  obtain ⟨o, ho, hex, hd⟩ := R.ob
  have pr : Paired (fun (p : SEnt) (e : Int × Value) => e.1 = p.1.hash w ∧ RelV p.2 e.2) (entsOf L) es.toList := by
    rw [R.rows]
    unfold entsOf rowsN
    clear R ho hd
    induction L with
    | nil => exact .nil
    | cons p L ih => exact .cons ⟨rfl, rfl⟩ ih
  have tb : TabOk t ((entsOf L).map fun p => p.1.hash w) := by
    have := R.tab
    unfold entsOf
    rw [List.map_map]
    exact this
  have rm : (entsOf L).length * 5 < t.mask * 3 := by
    unfold entsOf
    rw [List.length_map]
    exact R.room
  refine ⟨⟨o, es, ep, t, ho, hex, hd, pr, tb, R.plain, R.led, rm⟩, ⟨o, ho⟩, fun h1 h2 p k => ?_⟩
  obtain ⟨o', es', ep', t', ho', r'⟩ := p
  exact ⟨o', es', ep', t', k o' ho', r'⟩
theorem call_setM (hc : X.calm = true) (hu : X.A.units + 64 < cLine) (hy : Y.w = X.w) : CallR X (.type "set") (RNM Y setM) := by
  intro pins s σ H xs us Q I rx ⟨ι, hm, vs, Qm, hr, ra, ⟨v, ys, e, e2, hlt, ok, q⟩, tq⟩
  subst e
  obtain ⟨x, rfl, r⟩ := rep1 ra
  obtain ⟨l, ws, rfl, sq, rr⟩ := seqOf_rep X.K hr r e2
  rw [Vals.ref1 rx]
  have hn : H s.heap.objs.size = none := I.hok.fresh (Nat.le_refl _)
  have fin : ∀ (its : List Value) (ks : List (Addr × NestedKey)), ks.length = ys.length → (∀ p ∈ ks, ∃ x ∈ ys, Rep Y ι hm.length H x (.ref p.1) ∧ x.key = some p.2) → (∀ x ∈ ys, ∃ p ∈ ks, x.key = some p.2) →
      ∀ (h' : Heap) (tk : Nat) L es ep t, SetN X.w h' s.heap.objs.size L es ep t → GotN ks ks.length L → (∀ b o, s.heap.get? b = some o → h'.get? b = some o) → EP X pins σ Q (.ref s.heap.objs.size) { s with heap := h', toks := tk } := by
    intro its ks hkl h2 h3 h' tk L es ep t R g k
    obtain ⟨zs, a1, a2, a3, a4⟩ := zs_of (L := L) fun p hp => h2 p (List.mem_of_mem_take (g.sub p hp))
    have o1 : H s.heap.objs.size = none := hn
    refine ⟨.ref s.heap.objs.size, upd H s.heap.objs.size (sO X.w s.heap.objs.size (entsOf L)), I.laid (t' := tk) k (Nat.le_refl _) (sO_new R), rfl, ?_⟩
    have e1 : (entsOf L).map (fun e => some e.1) = zs.map MV.key := by
      rw [a2]
      unfold entsOf
      rw [List.map_map] <;> rfl
    have nd : ((entsOf L).map (·.1)).Nodup := by
      unfold entsOf
      rw [List.map_map]
      exact R.nd
    have zn : (zs.map MV.key).Nodup := by
      have e4 : (entsOf L).map (fun e => some e.1) = ((entsOf L).map (·.1)).map some := by rw [List.map_map] <;> rfl
      rw [← e1, e4]
      exact List.pairwise_map.mpr (nd.imp fun h e => h (Option.some.inj e))
    refine tq (.fs zs) hm ι _ _ (hr.new o1) (Ext.new o1) ?_ (q zs a4 (fun x hx => ?_) zn (by rw [a3]; have := g.len; omega))
    · refine .fs (es := entsOf L) (by rw [hy]; exact upd_same) (hr.off o1) (.refl _) ⟨e1.symm, nd, ?_⟩ ?_
      · unfold entsOf
        rw [List.length_map]
        exact R.few
      · have z := a1.mono (Ext.new o1 (o := sO X.w s.heap.objs.size (entsOf L))) hr.live
        have e3 : (entsOf L).map (·.2) = L.map fun p => V.ref p.1 := by
          unfold entsOf
          rw [List.map_map] <;> rfl
        rw [e3]
        exact z
    · obtain ⟨p, hp, hk⟩ := h3 x hx
      have hm2 := g.all p (by rw [List.take_length]; exact hp)
      rw [hk, a2]
      obtain ⟨p', hp', e⟩ := List.mem_map.mp hm2
      exact List.mem_map.mpr ⟨p', hp', by rw [e]⟩
  rcases sq with sq | sq
  · obtain ⟨its, rv, pl, hz⟩ := I.list sq
    obtain ⟨ks, e, hkl, h1, h2, h3⟩ := ks_of I rr rv ok
    exact call_setN_list (P := X.prog) (w := X.w) ks (I.ok.hd hc) pl.isList (by simpa using e) h1 (by omega) (by omega) (fin its ks hkl h2 h3)
  · obtain ⟨its, rv, ⟨o, ho, hcl, m, hd⟩, hz⟩ := I.tuple sq
    obtain ⟨ks, e, hkl, h1, h2, h3⟩ := ks_of I rr rv ok
    exact call_setN_tuple (P := X.prog) (w := X.w) ks (I.ok.hd hc) ⟨o, ho, hcl, m, hd⟩ (by simpa using e) h1 (by omega) (by omega) (fin its ks hkl h2 h3)

/-! ### of a set: sorted, len -/
def setOf (h : MHp) : MV → Option (List MV)
  | .fs xs => some xs
  | .ref n => match h[n]? with
    | some (.st xs) => some xs
    | _ => none
  | _ => none
theorem setOf_rep {hm : MHp} {v : MV} {x : V} {xs : List MV} (hr : HR Y ι hm H) (r : Rep Y ι hm.length H v x) (h : setOf hm v = some xs) : ∃ a es ys, x = .ref a ∧ H a = some (sO Y.w a es) ∧ ys.Perm xs ∧ SGood ys es ∧ RepAll Y ι hm.length H ys (es.map (·.2)) := by
  cases r with
  | fs e o p g r => cases h; exact ⟨_, _, _, rfl, e, p, g, r⟩
  | @ref i hi =>
    unfold setOf at h
    cases e : hm[i]? with
    | none => simp [e] at h
    | some c =>
      simp only [e] at h
      cases c with
      | st ys =>
        cases h
        obtain ⟨zs, es, e, p, g, r⟩ := hr.cell i _ e
        exact ⟨_, es, zs, rfl, e, p, g, r⟩
      | _ => cases h
  | _ => cases h
def sortSetM (vs : List MV) (h : MHp) (Q : MQ) : Prop := ∃ v xs, vs = [v] ∧ setOf h v = some xs ∧ SortOk xs ∧ ∀ zs : List MV, zs.Perm xs → Q (.fl (zs.mergeSort sLe)) h
def sortSetMC (vs : List MV) (h : MHp) (Q : MQ) : Prop := ∃ v xs, vs = [v] ∧ setOf h v = some xs ∧ SortOk xs ∧ ∀ zs : List MV, zs.Perm xs → Q (.ref h.length) (h ++ [.lst (zs.mergeSort sLe)])
theorem vals_paired {es : List SEnt} {rs : List (Int × Value)} {w : World} (p : Paired (fun (p : SEnt) (e : Int × Value) => e.1 = p.1.hash w ∧ RelV p.2 e.2) es rs) : Vals (es.map (·.2)) (rs.map (·.2)) := by
  induction p with
  | nil => exact .nil
  | cons h t ih => exact .cons h.2 ih
theorem paired_len {α β : Type} {R : α → β → Prop} {as : List α} {bs : List β} (p : Paired R as bs) : as.length = bs.length := by
  induction p with
  | nil => rfl
  | cons h t ih => simp [ih]
theorem sortSet_run {a : Addr} {xs ys : List MV} {es : List SEnt} {Q : VK} (hc : X.calm = true) (hu : X.A.units + 64 < cLine) (hy : Y.w = X.w) (I : Inv X pins σ H s) (ha : H a = some (sO Y.w a es)) (pm : ys.Perm xs) (g : SGood ys es) (r : RepAll Y ι n H ys (es.map (·.2))) (so : SortOk xs)
    (q : ∀ (zs : List MV) (ws' : List V), zs.Perm xs → RepAll Y ι n H (zs.mergeSort sLe) ws' → ∀ p, H p = none → Q (.ref p) (upd H p (.lst ws'))) : wpAny (model X.prog X.w) X.A (call (.builtin "sorted") [.ref a]) (EP X pins σ Q) X.xe s := by
  have so' := so.perm pm
  obtain ⟨o, rs, ep, t, ho, hex, hd, pr, tb, pl, led, rm⟩ := (I.hok a _ ha).1
  rw [hy] at pr tb led
  have hrl : rs.size = es.length := by rw [← Array.length_toList, paired_len pr]
  have hfit : t.fits rs.size = true := by
    have h1 := tb.sz
    rw [List.length_map] at h1
    unfold SetTable.fits SetTable.fill
    rw [tb.dm, Bool.and_eq_true, beq_iff_eq, decide_eq_true_eq]
    show t.place.size = rs.size ∧ t.place.size + 0 ≤ t.mask
    omega
  have hel := g.len
  refine Calls.call_function_entry kind_sorted plain_sorted entry_sorted (args_sorted1 _) ?_
  unfold Builtin.«sorted»
  refine wpAny_bind (m := checkCount "sorted" 1 1 _) (wpAny_pure ?_)
  refine wpAny_bind (collect_set (A := X.A.in1) (I.ok.hd hc) ⟨o, ho, hex.1, hd⟩ hfit (by unfold scanBound; omega) tb.ris led fun s1 vs k1 hz g1 o1 pv => ?_)
  have hvl : vs.length = es.length := by rw [pv.length_eq, List.length_map, Array.length_toList, hrl]
  refine wpAny_bind (wpAny_newList ?_ (by rw [sizeLine_eq]; omega))
  have hoL : (s1.heap.push (seqObj "list" vs.toArray 0)).get? s1.heap.objs.size = some (seqObj "list" vs.toArray 0) := Heap.get?_push_size _ rfl
  obtain ⟨t1, t2⟩ := tri_of I r (vals_paired pr) so'.sok
  obtain ⟨bs, pb, eb⟩ := each_perm pv t1
  have hbs : (bs.map (·.1)).Perm ys := by rw [← t2]; exact pb.map _
  have hbx := hbs.trans pm
  have sob := so.perm hbx
  have henc := enc_map (rfl : bs.map (·.1) = bs.map (·.1))
  have hlen : bs.length = es.length := by rw [← eb.length, hvl]
  have keep1 : ∀ b o, s.heap.get? b = some o → (s1.heap.push (seqObj "list" vs.toArray 0)).get? b = some o := fun b o e => Heap.get?_push_of_some _ (k1 b o e)
  have notin : ∀ (u : Value) (p : MV × V), Tri Y ι n H s.heap u p → ∃ as, Reads (s1.heap.push (seqObj "list" vs.toArray 0)) u p.1.dat as ∧ s1.heap.objs.size ∉ as := fun u p ⟨_, as, rd⟩ => by
    refine ⟨as, PyProof.Rows.Reads.keeps keep1 rd, fun hm => ?_⟩
    obtain ⟨o, ho⟩ := PyProof.On.reads_mem_get rd _ hm
    exact absurd (Heap.lt_size ho) (Nat.not_lt.mpr hz)
  refine wpAny_bind (wpAny_holding (list_sort_data (s := { s1 with heap := s1.heap.push (seqObj "list" vs.toArray 0) }) (R := fun u (p : MV × V) => Rep Y ι n H p.1 p.2 ∧ RelV p.2 u) (enc := fun p : MV × V => p.1.dat) hoL (eb.mono fun _ _ z => z.1) (eb.mono notin) (by rw [henc]; exact sob.al) (by rw [henc]; exact sob.so) (by rw [hlen, sizeLine_eq]; omega)
    (fun b hb => by
      have := sob.dp b.1 (List.mem_map.mpr ⟨b, hb, rfl⟩)
      show X.A.units + 1 + 1 + b.1.dat.depth < cLine
      omega) fun out ho' eo => ?_))
  obtain ⟨ws', r1, r2⟩ := sorted_is (us := vs) rfl eo
  obtain ⟨c, hcc⟩ := sortedHeap_at (vs := vs) (out := out.toArray) hoL
  have hn : H s1.heap.objs.size = none := I.hok.fresh hz
  have keep2 : ∀ b u, s.heap.get? b = some u → (sortedHeap (s1.heap.push (seqObj "list" vs.toArray 0)) s1.heap.objs.size vs out.toArray).get? b = some u := fun b u e => by
    have q := k1 b u e
    have hlt := Heap.lt_size q
    rw [sortedHeap_old (Nat.ne_of_lt hlt) (by rw [size_push']; exact Nat.lt_succ_of_lt hlt)]
    exact Heap.get?_push_of_some _ q
  have hz2 : ws'.length ≤ sizeLine := by rw [r2.length, ho', hlen, sizeLine_eq]; omega
  have J : Inv X pins σ (upd H s1.heap.objs.size (.lst ws')) { s with heap := sortedHeap (s1.heap.push (seqObj "list" vs.toArray 0)) s1.heap.objs.size vs out.toArray, gens := s1.gens, drawn := s1.drawn, toks := s1.toks } :=
    I.call (ch := []) (Un.laid keep2 hz hn) (I.hok.laid keep2 hz ⟨hz2, out, c, r2, hcc⟩) (by rw [g1]; exact I.bare) (fun _ z => nomatch z)
  refine wpAny_pure ⟨_, rfl, .ref s1.heap.objs.size, _, ?_, rfl, q _ ws' hbx r1 _ hn⟩
  obtain ⟨h2, g2, d2, tk2, os2⟩ := s1
  cases o1
  exact J
theorem call_sortSetM (hc : X.calm = true) (hu : X.A.units + 64 < cLine) (hy : Y.w = X.w) : CallR X (.builtin "sorted") (RNM Y sortSetM) := by
  intro pins s σ H xs us Q I rx ⟨ι, hm, vs, Qm, hr, ra, ⟨v, ys, e, e2, so, q⟩, tq⟩
  subst e
  obtain ⟨x, rfl, r⟩ := rep1 ra
  obtain ⟨a, es, zs, rfl, ha, pm, g, rr⟩ := setOf_rep hr r e2
  rw [Vals.ref1 rx]
  exact sortSet_run hc hu hy I ha pm g rr so fun zs ws' p r' a ha => tq.newL hr r' (q zs p) ha
theorem call_sortSetMC (hc : X.calm = true) (hu : X.A.units + 64 < cLine) (hy : Y.w = X.w) : CallR X (.builtin "sorted") (RNM Y sortSetMC) := by
  intro pins s σ H xs us Q I rx ⟨ι, hm, vs, Qm, hr, ra, ⟨v, ys, e, e2, so, q⟩, tq⟩
  subst e
  obtain ⟨x, rfl, r⟩ := rep1 ra
  obtain ⟨a, es, zs, rfl, ha, pm, g, rr⟩ := setOf_rep hr r e2
  rw [Vals.ref1 rx]
  exact sortSet_run hc hu hy I ha pm g rr so fun zs ws' p r' a ha => tq.newC hr r' (q zs p) ha
end
end Mini
/-! Mini, part 13: xs[::-1], products, chains of comparisons. -/
namespace Mini
open PySem PySem.Spec PyProof.Rows L2

theorem fm_congr {α β : Type} {f g : α → Option β} : ∀ {l : List α}, (∀ a ∈ l, f a = g a) → l.filterMap f = l.filterMap g
  | [], _ => rfl
  | a :: l, h => by
    rw [List.filterMap_cons, List.filterMap_cons, h a List.mem_cons_self, fm_congr fun b hb => h b (List.mem_cons_of_mem _ hb)]
/-! ### xs[::-1] -/
section
variable {prog : Program} {w : World} {A : Around} {E : Value → Shared → Prop} {s : Shared}
theorem adjust_rev (n : Nat) : Builtin.Slice.sliceAdjust none none (-1) (n : Int) = ((n : Int) - 1, -1) := rfl
theorem places_rev (n : Nat) : Builtin.Slice.slicePlaces ((n : Int) - 1) (-1) (-1) = n := by
  unfold Builtin.Slice.slicePlaces
  have h1 : ¬ ((-1 : Int) > 0) := by omega
  simp only [h1, if_false, show (- -1 : Int) = 1 by decide, Int.ediv_one]
  split <;> omega
theorem pick_rev (xs : Array Value) : ((List.range xs.size).filterMap fun (k : Nat) => xs[(((xs.size : Int) - 1) + (k : Int) * (-1)).toNat]?).toArray = xs.toList.reverse.toArray := by
  have e : ((List.range xs.size).filterMap fun (k : Nat) => xs[(((xs.size : Int) - 1) + (k : Int) * (-1)).toNat]?) = ((List.range xs.size).map fun k => xs.size - 1 - k).filterMap (xs[·]?) := by
    rw [List.filterMap_map]
    refine fm_congr fun k hk => ?_
    have := List.mem_range.mp hk
    have e2 : (((xs.size : Int) - 1) + (k : Int) * (-1)).toNat = xs.size - 1 - k := by omega
    show xs[(((xs.size : Int) - 1) + (k : Int) * (-1)).toNat]? = xs[xs.size - 1 - k]?
    rw [e2]
  rw [e, PySem.W.krv_range, List.filterMap_reverse, PySem.W.krv_all]
theorem getItem_tuple_rev {t sl : Addr} {items : Array Value} {vs : Value} {Q : Value → Shared → Prop} (ht : IsTup s.heap t items) (hs : s.heap.IsSliceOf sl .none .none vs) (ps : IsPart vs (some (-1)))
    (h : Q (.ref s.heap.objs.size) { s with heap := s.heap.push { cls := .type "tuple", data := .seq items.toList.reverse.toArray } }) (hsz : items.size ≤ sizeLine) : wpAny (model prog w) A (getItem (.ref t) (.ref sl)) Q E s := by
  have htake : sizeOk (.seq items.toList.reverse.toArray) := by
    show items.toList.reverse.toArray.size ≤ sizeLine
    rw [List.size_toArray, List.length_reverse, Array.length_toList]
    omega
  obtain ⟨os, hos, hcs, hds⟩ := id hs
  have hTs : s.TypeIs (.ref sl) "slice" := ⟨os, hos, hcs⟩
  unfold getItem
  try with_reducible refine wpAny_holding ?_
  first | refine wpAny_bind (wpAny_pure ?_) | skip
  refine wpAny_bind (wpAny_sequenceKey ht.typeIs (by decide) ?_)
  refine wpAny_bind (wpAny_callSpecial?_slot (name := Str.ofString "__getitem__") ht.typeIs PyProof.Rows.slot_tuple_getitem
    (wpAny_call_entry PyProof.Rows.slot_tuple_getitem ht.typeIs entry_tuple_getitem ?_ (args_tuple_getitem _ _)))
  show wpAny _ _ (Builtin.Tuple.tupleItemsOf (.ref t) >>= _) _ _ s
  refine wpAny_bind (tupleItemsOf_ ht ?_)
  refine wpAny_bind (wpAny_typeOf hTs ?_)
  rw [if_pos (by decide)]
  have hap : ∀ {Q' : Int × Int × Nat → Shared → Prop} {A' : Around}, Q' ((items.size : Int) - 1, -1, items.size) s → wpAny (model prog w) A' (Builtin.Slice.sliceApplied (.ref sl) (pure (items.size : Int))) Q' E s := fun {Q' A'} hq => by
    unfold Builtin.Slice.sliceApplied Builtin.Slice.sliceFields
    refine wpAny_bind (wpAny_bind (wpAny_field hos hds (x := .none) rfl (wpAny_bind (wpAny_field hos hds (x := .none) rfl (wpAny_bind (wpAny_field hos hds (x := vs) rfl (wpAny_pure ?_)))))))
    refine wpAny_bind (HT.slicePart_ ps ?_)
    show wpAny _ _ (if ((-1 : Int) == 0) = true then _ else _) _ _ s
    rw [if_neg (by decide)]
    refine wpAny_bind (slicePart_none (wpAny_bind (slicePart_none (wpAny_bind (wpAny_pure ?_)))))
    show wpAny _ _ (match Builtin.Slice.sliceAdjust none none (-1) (items.size : Int) with | (lo, hi) => pure (lo, (-1 : Int), Builtin.Slice.slicePlaces lo hi (-1))) _ _ s
    rw [adjust_rev]
    show wpAny _ _ (pure ((items.size : Int) - 1, (-1 : Int), Builtin.Slice.slicePlaces ((items.size : Int) - 1) (-1) (-1))) _ _ s
    rw [places_rev]
    exact wpAny_pure hq
  refine wpAny_bind (hap ?_)
  have hno : ¬ (((items.size : Int) - 1 == 0 && (-1 : Int) == 1 && items.size == items.size) = true) := by
    intro q
    rw [Bool.and_eq_true, Bool.and_eq_true] at q
    exact absurd (eq_of_beq q.1.2) (by decide)
  show wpAny _ _ (if ((items.size : Int) - 1 == 0 && (-1 : Int) == 1 && items.size == items.size) = true then _ else _) _ _ s
  rw [if_neg hno, pick_rev]
  first
    | exact wpAny_bind (m := Builtin.Tuple.tupleExact _) (wpAny_newObj_type (wpAny_pure ⟨_, rfl, wpAny_pure h⟩) htake)
    | exact wpAny_bind (m := Builtin.Tuple.tupleExact _) (wpAny_newObj_type (wpAny_bind (wpAny_pure (wpAny_pure ⟨_, rfl, wpAny_pure h⟩))) htake)
    | exact wpAny_bind (wpAny_bind (m := Builtin.Tuple.tupleExact _) (wpAny_newObj_type (wpAny_pure (wpAny_pure ⟨_, rfl, wpAny_pure h⟩)) htake))
    | exact wpAny_bind (wpAny_bind (m := Builtin.Tuple.tupleExact _) (wpAny_newObj_type (wpAny_pure ⟨_, rfl, wpAny_pure h⟩) htake))
end
def rRevS (K : PySem.W.Frag) : V → Hp → VK → Prop := fun x H1 Q => ∃ a xs, x = .ref a ∧ ((SqL K H1 a xs ∧ ∀ p, H1 p = none → Q (.ref p) (upd H1 p (.lst xs.reverse))) ∨ (SqT K H1 a xs ∧ ∀ p, H1 p = none → Q (.ref p) (upd H1 p (.tup xs.reverse))))
theorem pe_revS {X : Cx} {e : Expr} {te : TE} {k : Nat} {p1 p2 p3 pos : Pos} (he : PE X e te) : PE X (.Subscript e (.Slice none none (some (.UnaryOp .USub (.Constant (.int 1) k p1) p2)) p3) pos) (tUn (rRevS X.K) te) := by
  refine ⟨fun pins s σ H Q I h => ?_⟩
  refine Subscript_ (thn (he.run pins s σ H _ I h) fun v s1 ⟨x, H1, I1, r1, q1⟩ => ?_)
  obtain ⟨a, xs, ex, hx⟩ := q1
  subst ex
  cases r1
  have hst : PO X (some (.UnaryOp .USub (.Constant (.int 1) k p1) p2)) (tPart (tUn (rU fun i => .int (-i)) (tC (.int 1)))) := po_some (pe_un un_neg pe_int)
  refine wpAny_Slice (thn (po_none.run pins s1 σ H1 (fun o H2 => o = none ∧ H2 = H1) I1 ⟨rfl, rfl⟩) fun vl s2 ⟨l, H2, I2, pl, el, e2⟩ => ?_)
  subst el e2
  refine thn (po_none.run pins s2 σ H2 (fun o H3 => o = none ∧ H3 = H2) I2 ⟨rfl, rfl⟩) fun vu s3 ⟨u, H3, I3, pu, eu, e3⟩ => ?_
  subst eu e3
  refine thn (hst.run pins s3 σ H3 (fun o H4 => o = some (-1) ∧ H4 = H3) I3 ⟨1, rfl, -1, rfl, rfl, rfl⟩) fun vs s4 ⟨o, H4, I4, ps, eo, e4⟩ => ?_
  subst eo e4
  have I5 : Inv X pins σ H4 { s4 with heap := s4.heap.push { cls := .type "slice", data := .fields #[vl, vu, vs] } } := I4.kept (t' := s4.toks) fun b ob q => Heap.get?_push_of_some _ q
  show wpAny (model X.prog X.w) X.A (subscriptTail e (.Slice none none (some (.UnaryOp .USub (.Constant (.int 1) k p1) p2)) p3) (.ref a) (.ref s4.heap.objs.size)) (EP X pins σ Q) X.xe { s4 with heap := s4.heap.push { cls := .type "slice", data := .fields #[vl, vu, vs] } }
  rcases hx with ⟨hx, q⟩ | ⟨hx, q⟩
  · obtain ⟨its, r, ht, hz⟩ := I5.list hx
    have hlen := r.length
    refine tail_any (ops := [.ref a, .ref s4.heap.objs.size]) ht.isList.typeIs (PySem.slot_list_getitem.lookup) ?_ (by with_unfolding_all rfl)
    refine wpAny_getItem_list_slice ht.isList (Heap.IsSliceOf.new _ vl vu vs) pl pu ps (by decide) ?_ (by rw [List.size_toArray]; omega)
    rw [PySem.W.krv_pick]
    refine ⟨.ref _, _, I5.laid (t' := s4.toks) (o := .lst xs.reverse) (fun b ob q => Heap.get?_push_of_some _ q) (Nat.le_refl _) ?_, rfl, q _ (I5.hok.fresh (Nat.le_refl _))⟩
    exact ⟨by rw [List.length_reverse]; exact hz, _, 0, r.reverse, Heap.get?_push_size _ rfl⟩
  · obtain ⟨its, r, ht, hz⟩ := I5.tuple hx
    have hlen := r.length
    cases pl
    cases pu
    refine tail_any (ops := [.ref a, .ref s4.heap.objs.size]) ht.typeIs (PyProof.Rows.slot_tuple_getitem.lookup) ?_ (by with_unfolding_all rfl)
    refine getItem_tuple_rev ht (Heap.IsSliceOf.new _ .none .none vs) ps ?_ (by rw [List.size_toArray]; omega)
    refine ⟨.ref _, _, I5.laid (t' := s4.toks) (o := .tup xs.reverse) (fun b ob q => Heap.get?_push_of_some _ q) (Nat.le_refl _) ?_, rfl, q _ (I5.hok.fresh (Nat.le_refl _))⟩
    exact ⟨by rw [List.length_reverse]; exact hz, _, r.reverse, IsTup.new _ _⟩
def revM (v : MV) (h : MHp) (Q : MQ) : Prop := match v with
  | .tup xs => Q (.tup xs.reverse) h
  | v => ∃ xs, lstOf h v = some xs ∧ Q (.fl xs.reverse) h
theorem sn_rev {Y : Lay} {W : WX} {X : Cx} {a : ME} {e : Expr} {k : Nat} {p1 p2 p3 pos : Pos} (he : SE Y W X a e) : SE Y W X (mOp1 revM a) (.Subscript e (.Slice none none (some (.UnaryOp .USub (.Constant (.int 1) k p1) p2)) p3) pos) :=
  peI (pe_revS he) fun s H Q h => by
    obtain ⟨ι, sm, hm, Qm, Em, hr, rs, q, tq, tx⟩ := h
    refine ⟨ι, sm, hm, _, Em, hr, rs, q, fun v h1 ι1 H1 x hr1 e1 r1 q1 => ?_, tx⟩
    have tq1 := tq.mono e1 hr.live hr1.live
    have lst : (∃ xs, lstOf h1 v = some xs ∧ Qm (.fl xs.reverse) h1) → rRevS X.K x H1 Q := fun ⟨xs, e, q⟩ => by
      obtain ⟨p, vs, rfl, sq, ra⟩ := lstOf_rep X.K hr1 r1 e
      exact ⟨p, vs, rfl, .inl ⟨sq, fun p hp => tq1.newL hr1 ra.reverse q hp⟩⟩
    cases v with
    | tup xs =>
      cases r1 with
      | @tup _ vs a e ra => exact ⟨a, vs, rfl, .inr ⟨SqT.of e, fun p hp => tq1.newT hr1 ra.reverse q1 hp⟩⟩
    | _ => exact lst q1

/-! ### products -/
theorem tuple_mulSame (l : Addr) (items : Array Value) (n : Nat) (dd : Option Addr) (sl : Array (Option Value)) (x : Int) (u : Tok) (c0 : (decide (x < -(2 ^ 63)) || decide (x ≥ 2 ^ 63)) = false) (c1 : (items.isEmpty || x == 1) = true) :
    Meets (Builtin.«tuple.__mul__» ⟨[.ref l, .int x u], []⟩) (fun _ R s => s.heap.get? l = some { cls := .type "tuple", dict := dd, data := .seq items n, slots := sl } ∧ R (.ok (.ret (Value.ref l))) s) :=
  .of_wp fun prog w A R s h => by
    obtain ⟨hp, g, d, tk, os⟩ := s
    obtain ⟨hl, h⟩ := h
    have f1 := AutoSeq1.idx_int
    wp_walk using wpAny_loadPart' hl
    repeat (first
      | (refine wpAny_ite_false (decide_eq_false (by rw [c0]; exact Bool.false_ne_true)) ?_; wp_walk using wpAny_loadPart' hl)
      | (refine wpAny_ite_true (decide_eq_true c1) ?_; wp_walk using wpAny_loadPart' hl))
    exact ⟨_, rfl, h⟩
def rSameT (K : PySem.W.Frag) : R2 := fun x y H Q => ∃ l k xs, x = .ref l ∧ y = .int k ∧ SqT K H l xs ∧ (xs = [] ∨ k = 1) ∧ -(2 ^ 63) ≤ k ∧ k < 2 ^ 63 ∧ Q (.ref l) H
theorem op_sameT {X : Cx} : OpR X (binaryOp .Mult) (rSameT X.K) := by
  intro pins s σ H x y v u Q I rx ry h
  obtain ⟨l, k, xs, rfl, rfl, hT, hne, h1, h2, q⟩ := h
  cases rx
  obtain ⟨t, rfl⟩ := ry
  obtain ⟨its, r, ⟨⟨cls, dd, data, sl⟩, ho, hc, n, hd⟩, hs⟩ := I.tuple hT
  simp only at hc hd
  subst hc hd
  have c0 : (decide (k < -(2 ^ 63)) || decide (k ≥ 2 ^ 63)) = false := by
    rw [decide_eq_false (by omega), decide_eq_false (by omega)] <;> rfl
  have c1 : (its.toArray.isEmpty || k == 1) = true := by
    rcases hne with e | e
    · subst e
      cases r
      rfl
    · subst e
      simp
  exact wpAny_binaryOp_repeat_ref (T := "tuple") (U := "int") (by decide) ⟨_, ho, rfl⟩ (fun s' => typeIs_int s' k t) noFill_tuple_mul F.fills_int_mul F.slot_int_rmul repeat_tuple F.slot_int_index.lookup
    (call_meets F.slot_int_rmul (typeIs_int s k t) F.entry_int_rmul (F.args_int_rmul_2 _ _) (int_rmul_tuple k t l its.toArray n dd sl)
      ⟨ho, rfl, ⟨_, ho, rfl⟩, call_meets F.slot_tuple_mul ⟨_, ho, rfl⟩ F.entry_tuple_mul (F.args_tuple_mul_2 _ _) (tuple_mulSame l its.toArray n dd sl k t c0 c1) ⟨ho, .ref l, H, I, rfl, q⟩⟩)
/-- two ints; a tuple once or more; a list so many times -/
def mulM2 (v u : MV) (h : MHp) (Q : MQ) : Prop := match u with
  | .int k => (match v with
    | .int i => CMul i k ∧ Q (.int (i * k)) h
    | .tup xs => 1 ≤ k ∧ k ≤ 1000 ∧ xs.length ≤ 1000 ∧ Q (.tup (List.replicate k.toNat xs).flatten) h
    | .fl xs => -(2 ^ 63) ≤ k ∧ k < 2 ^ 63 ∧ xs.length * k.toNat ≤ sizeLine ∧ Q (.fl (List.replicate k.toNat xs).flatten) h
    | _ => False)
  | _ => False
/-- a list so many times, a cell -/
def mulMC (v u : MV) (h : MHp) (Q : MQ) : Prop := match u with
  | .int k => (match v with
    | .fl xs => -(2 ^ 63) ≤ k ∧ k < 2 ^ 63 ∧ xs.length * k.toNat ≤ sizeLine ∧ Q (.ref h.length) (h ++ [.lst (List.replicate k.toNat xs).flatten])
    | _ => False)
  | _ => False
section
variable {Y : Lay} {W : WX} {X : Cx}
theorem RepAll.rep {ι : Nat → Addr} {n : Nat} {H : Hp} {xs : List MV} {vs : List V} (r : RepAll Y ι n H xs vs) : ∀ k : Nat, RepAll Y ι n H (List.replicate k xs).flatten (List.replicate k vs).flatten
  | 0 => .nil
  | k + 1 => by
    rw [List.replicate_succ, List.replicate_succ, List.flatten_cons, List.flatten_cons]
    exact r.append (r.rep k)
theorem flat_nil {α : Type} : ∀ k : Nat, (List.replicate k ([] : List α)).flatten = []
  | 0 => rfl
  | k + 1 => by rw [List.replicate_succ, List.flatten_cons, flat_nil k] <;> rfl
theorem op_mulM2 : OpR X (binaryOp .Mult) (R2M Y mulM2) := by
  intro pins s σ H x y v' u' Q I rx ry ⟨ι, hm, v, u, Qm, hr, rv, ru, q, tq⟩
  cases ru with
  | int k =>
    cases rv with
    | int i => exact op_mul pins s σ H _ _ v' u' Q I rx ry ⟨i, k, rfl, rfl, q.1, tq.here hr (.int _) q.2⟩
    | @tup xs vs a e ra =>
      obtain ⟨h1, h2, hl, q⟩ := q
      by_cases hn : xs = []
      · subst hn
        rw [flat_nil] at q
        cases ra
        exact op_sameT pins s σ H _ _ v' u' Q I rx ry ⟨a, k, [], rfl, rfl, SqT.of e, .inl rfl, by omega, by omega, tq.here hr (.tup e .nil) q⟩
      · by_cases hk : k = 1
        · subst hk
          have z : (List.replicate (1 : Int).toNat xs).flatten = xs := by
            show (List.replicate 1 xs).flatten = xs
            simp
          rw [z] at q
          exact op_sameT pins s σ H _ _ v' u' Q I rx ry ⟨a, 1, vs, rfl, rfl, SqT.of e, .inr rfl, by omega, by omega, tq.here hr (.tup e ra) q⟩
        · refine op_repT pins s σ H _ _ v' u' Q I rx ry ⟨a, k, vs, rfl, rfl, SqT.of e, fun z => hn ?_, by omega, h2, by rw [← ra.length]; exact hl, fun p hp => tq.newT hr (ra.rep k.toNat) q hp⟩
          subst z
          exact List.eq_nil_of_length_eq_zero ra.length
    | @fl xs vs a e o ra =>
      obtain ⟨h1, h2, hl, q⟩ := q
      exact op_rep pins s σ H _ _ v' u' Q I rx ry ⟨a, k, vs, rfl, rfl, e, h1, h2, by rw [← ra.length]; exact hl, fun p hp => tq.newL hr (ra.rep k.toNat) q hp⟩
    | _ => exact q.elim
  | _ => exact q.elim
theorem op_mulMC : OpR X (binaryOp .Mult) (R2M Y mulMC) := by
  intro pins s σ H x y v' u' Q I rx ry ⟨ι, hm, v, u, Qm, hr, rv, ru, q, tq⟩
  cases ru with
  | int k =>
    cases rv with
    | @fl xs vs a e o ra =>
      obtain ⟨h1, h2, hl, q⟩ := q
      exact op_rep pins s σ H _ _ v' u' Q I rx ry ⟨a, k, vs, rfl, rfl, e, h1, h2, by rw [← ra.length]; exact hl, fun p hp => tq.newC hr (ra.rep k.toNat) q hp⟩
    | _ => exact q.elim
  | _ => exact q.elim

/-! ### a op b op c -/
def mChain (r r' : MV → MV → MHp → MQ → Prop) (a b c : ME) : ME := fun s h Q E => a s h (fun x h1 => b s h1 (fun y h2 => r x y h2 (fun z h3 => ∃ k, z = .bl k ∧ (if k = true then c s h3 (fun w h4 => r' y w h4 Q) E else Q (.bl false) h3))) E) E
variable {a b c : ME} {ea eb ec : Expr} {pos : Pos} {r r' : MV → MV → MHp → MQ → Prop} {op op' : CmpOp}
theorem tM_chain {s : L2.St} {H : Hp} {Q : VK} (h : tM Y W (mChain r r' a b c) s H Q) : tChain (R2M Y r) (R2M Y r') (tM Y W a) (tM Y W b) (tM Y W c) s H Q := by
  obtain ⟨ι, sm, hm, Qm, Em, hr, rs, q, tq, tx⟩ := h
  refine ⟨ι, sm, hm, _, Em, hr, rs, q, fun v h1 ι1 H1 x hr1 e1 r1 q1 => ?_, tx⟩
  refine ⟨ι1, sm, h1, _, Em, hr1, rs.mono e1 hr.live, q1, fun u h2 ι2 H2 y hr2 e2 r2 q2 => ?_, tx.mono e1 hr.live hr1.live⟩
  have e12 := e1.trans e2 hr.live hr1.live
  refine ⟨ι2, h2, v, u, _, hr2, r1.mono e2 hr1.live, r2, q2, fun z h3 ι3 H3 zv hr3 e3 r3 q3 => ?_⟩
  have e13 := e12.trans e3 hr.live hr2.live
  obtain ⟨k, rfl, q3⟩ := q3
  cases r3
  refine ⟨k, rfl, ?_⟩
  cases k with
  | false =>
    have q4 : Qm (.bl false) h3 := by
      rw [if_neg (by decide)] at q3
      exact q3
    exact iteF ((tq.mono e13 hr.live hr3.live).here hr3 (.bl _) q4)
  | true =>
    rw [if_pos rfl] at q3
    have q4 := q3
    refine iteT ⟨ι3, sm, h3, _, Em, hr3, rs.mono e13 hr.live, q4, fun w h4 ι4 H4 wv hr4 e4 r4 q5 => ?_, tx.mono e13 hr.live hr3.live⟩
    exact ⟨ι4, h4, u, w, Qm, hr4, (r2.mono e3 hr2.live).mono e4 hr3.live, r4, q5, tq.mono (e13.trans e4 hr.live hr3.live) hr.live hr4.live⟩
theorem sn_chain (ho : OpR X (compareOp op) (R2M Y r)) (ho' : OpR X (compareOp op') (R2M Y r')) (ha : SE Y W X a ea) (hb : SE Y W X b eb) (hc : SE Y W X c ec)
    (hm : lastMarks [op, op'] [eb, ec] = false := by with_unfolding_all rfl) : SE Y W X (mChain r r' a b c) (.Compare ea [op, op'] [eb, ec] pos) :=
  peI (pe_chain ho ho' ha hb hc hm) fun s H Q h => tM_chain h
end
end Mini
/-! Mini, part 14: methods of lists, isinstance, repr. -/
namespace Mini
open PySem PySem.Spec PyProof.Rows L2

/-! ### methods of lists -/
def mMt (op : MV → List MV → MHp → MQ → Prop) (o : ME) (a : MA) : ME := fun s h Q E => o s h (fun v h1 => (lstOf h1 v).isSome = true ∧ a s h1 (fun vs h2 => op v vs h2 Q) E) E
def mMt0 (op : MV → List MV → MHp → MQ → Prop) (o : ME) : ME := fun s h Q E => o s h (fun v h1 => (lstOf h1 v).isSome = true ∧ op v [] h1 Q) E
section
variable {Y : Lay} {W : WX} {X : Cx} {op : MV → List MV → MHp → MQ → Prop} {o : ME} {a : MA} {eo e : Expr} {es : List Expr} {name : Str} {id : String} {apos cpos : Pos}
theorem tyV_lst {ι : Nat → Addr} {hm : MHp} {H : Hp} {v : MV} {x : V} (hr : HR Y ι hm H) (r : Rep Y ι hm.length H v x) (h : (lstOf hm v).isSome = true) : tyV X.K "list" x H := by
  obtain ⟨xs, e⟩ := Option.isSome_iff_exists.mp h
  obtain ⟨p, vs, rfl, sq, _⟩ := lstOf_rep X.K hr r e
  exact .inl ⟨rfl, vs, sq⟩
theorem sn_mt (slot : Slot "list" name id) (hty : typeOf (.builtin id) = pure (.type "method_descriptor")) (hm : MtR X id (RmM Y op)) (ho : SE Y W X o eo) (ha : SA Y W X a (e :: es))
    (hbase : attributeBase eo name X.env (eval eo X.env) = eval eo X.env := by rfl)
    (hfew : ((backTo cpos (starEach (e :: es) X.env)).all (fun x => !x.1) && (backToKw cpos (keywordEach [] X.env)).all (fun x => x.1.isSome)
      && decide ((e :: es).length + ([] : List Keyword).length + (if ([] : List Keyword).isEmpty then 0 else 1) < 30)) = true := by rfl)
    (hline : (apos.endLine == cpos.line) = true := by rfl) (hs : starEach (e :: es) X.env = (false, eval e X.env) :: starEach es X.env := by rfl) (hplain : (backTo cpos (starEach es X.env)).any (·.1) = false := by rfl) :
    SE Y W X (mMt op o a) (.Call (.Attribute eo name apos) (e :: es) [] cpos) :=
  peI (pe_bm PySem.F.plainAttrs_list slot hty hm ho ha hbase hfew hline hs hplain) fun s H Q ⟨ι, sm, hm, Qm, Em, hr, rs, q, tq, tx⟩ => by
    refine ⟨ι, sm, hm, _, Em, hr, rs, q, fun v h1 ι1 H1 x hr1 e1 r1 q1 => ⟨tyV_lst hr1 r1 q1.1, ?_⟩, tx⟩
    refine ⟨ι1, sm, h1, _, Em, hr1, rs.mono e1 hr.live, q1.2, fun vs h2 ι2 H2 xs hr2 e2 r2 q2 => ?_, tx.mono e1 hr.live hr1.live⟩
    exact ⟨ι2, h2, v, vs, Qm, hr2, r1.mono e2 hr1.live, r2, q2, tq.mono (e1.trans e2 hr.live hr1.live) hr.live hr2.live⟩
theorem sn_mt0 (slot : Slot "list" name id) (hty : typeOf (.builtin id) = pure (.type "method_descriptor")) (hm : MtR X id (RmM Y op)) (ho : SE Y W X o eo)
    (hbase : attributeBase eo name X.env (eval eo X.env) = eval eo X.env := by rfl) (hline : (apos.endLine == cpos.line) = true := by rfl) : SE Y W X (mMt0 op o) (.Call (.Attribute eo name apos) [] [] cpos) :=
  peI (pe_bm0 PySem.F.plainAttrs_list slot hty hm ho hbase hline) fun s H Q ⟨ι, sm, hm, Qm, Em, hr, rs, q, tq, tx⟩ => by
    refine ⟨ι, sm, hm, _, Em, hr, rs, q, fun v h1 ι1 H1 x hr1 e1 r1 q1 => ⟨tyV_lst hr1 r1 q1.1, ?_⟩, tx⟩
    exact ⟨ι1, h1, v, [], Qm, hr1, r1, .nil, q1.2, tq.mono e1 hr.live hr1.live⟩
theorem mtI {X : Cx} {r r' : V → List V → Hp → VK → Prop} (h : MtR X id r) (i : ∀ x xs H Q, r' x xs H Q → r x xs H Q) : MtR X id r' := fun pins s σ H x xs v us Q I rx rs q => h pins s σ H x xs v us Q I rx rs (i _ _ _ _ q)

def appendM (v : MV) (vs : List MV) (h : MHp) (Q : MQ) : Prop := ∃ n xs y, cellOf h v = some (n, xs) ∧ vs = [y] ∧ xs.length < sizeLine ∧ Q .non (h.set n (.lst (xs ++ [y])))
theorem mt_appendM : MtR X "list.append" (RmM Y appendM) := mtI mt_append fun x xs H Q ⟨ι, hm, v, vs, Qm, hr, r, ra, ⟨n, ys, y, hc, e, hl, q⟩, tq⟩ => by
  subst e
  obtain ⟨rfl, hn, rfl, ws, hv, rw'⟩ := cellOf_rep hr r hc
  obtain ⟨yv, rfl, ry⟩ := rep1 ra
  exact ⟨_, ws, yv, rfl, rfl, hv, by rw [← rw'.length]; exact hl, tq.setL hr hn .non (rw'.append (.cons ry .nil)) q⟩
def extendM (v : MV) (vs : List MV) (h : MHp) (Q : MQ) : Prop := ∃ n xs y ys, cellOf h v = some (n, xs) ∧ vs = [y] ∧ ((∃ zs, y = .fl zs ∧ ys = zs) ∨ ∃ m, cellOf h y = some (m, ys)) ∧ xs.length + ys.length ≤ sizeLine ∧ Q .non (h.set n (.lst (xs ++ ys)))
theorem mt_extendM : MtR X "list.extend" (RmM Y extendM) := mtI mt_extend fun x xs H Q ⟨ι, hm, v, vs, Qm, hr, r, ra, ⟨n, ys, y, zs, hc, e, hy, hl, q⟩, tq⟩ => by
  subst e
  obtain ⟨rfl, hn, rfl, ws, hv, rw'⟩ := cellOf_rep hr r hc
  obtain ⟨yv, rfl, ry⟩ := rep1 ra
  have hy2 : ∃ b us, yv = .ref b ∧ H b = some (.lst us) ∧ RepAll Y ι hm.length H zs us := by
    rcases hy with ⟨_, rfl, rfl⟩ | ⟨m, hm2⟩
    · cases ry with
      | fl e o r => exact ⟨_, _, rfl, e, r⟩
    · obtain ⟨rfl, _, rfl, us, hu, ru⟩ := cellOf_rep hr ry hm2
      exact ⟨_, us, rfl, hu, ru⟩
  obtain ⟨b, us, rfl, hb, ru⟩ := hy2
  exact ⟨_, b, ws, us, rfl, rfl, hv, hb, by rw [← rw'.length, ← ru.length]; exact hl, tq.setL hr hn .non (rw'.append ru) q⟩
theorem RepAll.dropLast {ι : Nat → Addr} {n : Nat} {H : Hp} {xs : List MV} {vs : List V} (r : RepAll Y ι n H xs vs) : RepAll Y ι n H xs.dropLast vs.dropLast := by
  rw [List.dropLast_eq_take, List.dropLast_eq_take, r.length]
  exact r.take _
theorem RepAll.erase {ι : Nat → Addr} {n : Nat} {H : Hp} : ∀ {xs : List MV} {vs : List V} (i : Nat), RepAll Y ι n H xs vs → RepAll Y ι n H (xs.eraseIdx i) (vs.eraseIdx i)
  | _, _, _, .nil => .nil
  | _, _, 0, .cons _ t => t
  | _, _, i + 1, .cons h t => .cons h (RepAll.erase i t)
def popM (v : MV) (vs : List MV) (h : MHp) (Q : MQ) : Prop := ∃ n xs y, cellOf h v = some (n, xs) ∧ vs = [] ∧ xs[xs.length - 1]? = some y ∧ Q y (h.set n (.lst xs.dropLast))
theorem mt_popM : MtR X "list.pop" (RmM Y popM) := mtI mt_pop fun x xs H Q ⟨ι, hm, v, vs, Qm, hr, r, ra, ⟨n, ys, y, hc, e, hy, q⟩, tq⟩ => by
  subst e
  cases ra
  obtain ⟨rfl, hn, rfl, ws, hv, rw'⟩ := cellOf_rep hr r hc
  obtain ⟨yv, hyv, ry⟩ := rw'.get hy
  exact ⟨_, ws, yv, rfl, rfl, hv, by rw [← rw'.length]; exact hyv, tq.setL hr hn ry rw'.dropLast q⟩
def popAtM (v : MV) (vs : List MV) (h : MHp) (Q : MQ) : Prop := ∃ n xs i k y, cellOf h v = some (n, xs) ∧ vs = [.int i] ∧ -(2 ^ 63) ≤ i ∧ i < 2 ^ 63 ∧ seqIndex? i xs.length = some k ∧ xs[k]? = some y ∧ Q y (h.set n (.lst (xs.eraseIdx k)))
theorem mt_popAtM : MtR X "list.pop" (RmM Y popAtM) := mtI mt_popAt fun x xs H Q ⟨ι, hm, v, vs, Qm, hr, r, ra, ⟨n, ys, i, k, y, hc, e, h1, h2, hk, hy, q⟩, tq⟩ => by
  subst e
  obtain ⟨iv, rfl, ri⟩ := rep1 ra
  cases ri
  obtain ⟨rfl, hn, rfl, ws, hv, rw'⟩ := cellOf_rep hr r hc
  obtain ⟨yv, hyv, ry⟩ := rw'.get hy
  exact ⟨_, ws, i, k, yv, rfl, rfl, hv, h1, h2, by rw [← rw'.length]; exact hk, hyv, tq.setL hr hn ry (rw'.erase k) q⟩
def insertM (v : MV) (vs : List MV) (h : MHp) (Q : MQ) : Prop := ∃ n xs i y, cellOf h v = some (n, xs) ∧ vs = [.int i, y] ∧ xs.length < sizeLine ∧ 0 ≤ i ∧ i < 2 ^ 63 ∧ Q .non (h.set n (.lst (xs.take i.toNat ++ [y] ++ xs.drop i.toNat)))
theorem mt_insertM : MtR X "list.insert" (RmM Y insertM) := mtI mt_insert fun x xs H Q ⟨ι, hm, v, vs, Qm, hr, r, ra, ⟨n, ys, i, y, hc, e, hl, h1, h2, q⟩, tq⟩ => by
  subst e
  obtain ⟨iv, yv, rfl, ri, ry⟩ := rep2 ra
  cases ri
  obtain ⟨rfl, hn, rfl, ws, hv, rw'⟩ := cellOf_rep hr r hc
  exact ⟨_, ws, i, yv, rfl, rfl, hv, by rw [← rw'.length]; exact hl, h1, h2, tq.setL hr hn .non (((rw'.take _).append (.cons ry .nil)).append (rw'.drop _)) q⟩
def reverseM (v : MV) (vs : List MV) (h : MHp) (Q : MQ) : Prop := ∃ n xs, cellOf h v = some (n, xs) ∧ vs = [] ∧ Q .non (h.set n (.lst xs.reverse))
theorem mt_reverseM : MtR X "list.reverse" (RmM Y reverseM) := mtI mt_reverse fun x xs H Q ⟨ι, hm, v, vs, Qm, hr, r, ra, ⟨n, ys, hc, e, q⟩, tq⟩ => by
  subst e
  cases ra
  obtain ⟨rfl, hn, rfl, ws, hv, rw'⟩ := cellOf_rep hr r hc
  exact ⟨_, ws, rfl, rfl, hv, tq.setL hr hn .non rw'.reverse q⟩
def clearM (v : MV) (vs : List MV) (h : MHp) (Q : MQ) : Prop := ∃ n xs, cellOf h v = some (n, xs) ∧ vs = [] ∧ Q .non (h.set n (.lst []))
theorem mt_clearM : MtR X "list.clear" (RmM Y clearM) := mtI mt_clear fun x xs H Q ⟨ι, hm, v, vs, Qm, hr, r, ra, ⟨n, ys, hc, e, q⟩, tq⟩ => by
  subst e
  cases ra
  obtain ⟨rfl, hn, rfl, ws, hv, rw'⟩ := cellOf_rep hr r hc
  exact ⟨_, ws, rfl, rfl, hv, tq.setL hr hn .non .nil q⟩

/-! ### isinstance(x, T), T a built-in type -/
/-- the type's name, where a built-in one -/
def tyM (h : MHp) : MV → Option String
  | .non => some "NoneType"
  | .bl _ => some "bool"
  | .int _ => some "int"
  | .str _ => some "str"
  | .tup _ => some "tuple"
  | .fl _ => some "list"
  | .sc _ => some "list"
  | .ref n => match h[n]? with
    | some (.lst _) => some "list"
    | _ => none
  | _ => none
theorem tyM_rep {K : PySem.W.Frag} {ι : Nat → Addr} {hm : MHp} {H : Hp} {v : MV} {x : V} {T : String} (hr : HR Y ι hm H) (r : Rep Y ι hm.length H v x) (h : tyM hm v = some T) : TyX K H x (.type T) := by
  cases r with
  | non => cases h; exact .base .non
  | bl b => cases h; exact .base (.bl b)
  | int i => cases h; exact .base (.int i)
  | str x => cases h; exact .base (.str x)
  | tup e r => cases h; exact .base (.tup e)
  | fl e o r => cases h; exact .base (.lst e)
  | sc e o r =>
    cases h
    rcases e with e | ⟨ob, e⟩
    · exact .base (.lst e)
    · exact .base (.frz e)
  | @ref i hi =>
    unfold tyM at h
    cases e : hm[i]? with
    | none => simp [e] at h
    | some c =>
      simp only [e] at h
      cases c with
      | lst ys =>
        cases h
        obtain ⟨vs, hv, r⟩ := hr.cell i _ e
        exact .base (.lst hv)
      | _ => cases h
  | _ => cases h
/-- isinstance(x, T): b by the type's name -/
def isiM (T : String) (vs : List MV) (h : MHp) (Q : MQ) : Prop := ∃ v t b, vs = [v] ∧ tyM h v = some t ∧ kitB t T = some b ∧ Q (.bl b) h
def mIsi (T : String) (a : ME) : ME := mOp1 (fun v h Q => isiM T [v] h Q) a
theorem sn_isi {T : String} {x : Str} {tn : Str} {p p2 pos : Pos} {ea : Expr} {a : ME} (hg : Gl X x) (hmx : X.mg x = none) (hg2 : Gl X tn) (hm2 : X.mg tn = none) (ha : SE Y W X a ea) (hv2 : bootBuiltins tn = some (.type T) := by rfl) (hv : bootBuiltins x = some (.builtin "isinstance") := by rfl)
    (hn2 : tn ≠ "__name__" := by decide) (hdb2 : (tn == ("__debug__" : Str)) = false := by decide) (hn : x ≠ "__name__" := by decide) (hdb : (x == ("__debug__" : Str)) = false := by decide)
    (he : starEach [ea, .Name tn p2] X.env = (false, eval ea X.env) :: starEach [.Name tn p2] X.env := by rfl) (hs2 : starEach [.Name tn p2] X.env = (false, eval (.Name tn p2) X.env) :: starEach [] X.env := by rfl) (hpl : (backTo pos (starEach [.Name tn p2] X.env)).any (·.1) = false := by rfl) :
    SE Y W X (mIsi T a) (.Call (.Name x p) [ea, .Name tn p2] [] pos) :=
  peI (pe_callB call_isi hg hmx hv (pa_cons ha (pa_cons (pe_bltn (v := .ty T) hg2 hm2 hv2 rfl hn2 hdb2) pa_nil hs2) he) hn hdb he hpl) fun s H Q ⟨ι, sm, hm, Qm, Em, hr, rs, q, tq, tx⟩ => by
    refine ⟨ι, sm, hm, _, Em, hr, rs, q, fun v h1 ι1 H1 xv hr1 e1 r1 q1 => ?_, tx⟩
    obtain ⟨w, t, b, e, ht, hk, q1⟩ := q1
    cases e
    exact ⟨xv, .ty T, .type t, .type T, b, rfl, .ty T, tyM_rep hr1 r1 ht, kit_ty hk, (tq.mono e1 hr.live hr1.live).here hr1 (.bl _) q1⟩

/-! ### repr -/
structure ROk (d : PyData) : Prop where
  sh : d.showable = true
  nd : d.hasDict = false
  dp : d.depth ≤ 50
  len : d.shown.length ≤ sizeLine
def reprM2 (vs : List MV) (h : MHp) (Q : MQ) : Prop := ∃ v, vs = [v] ∧ (der h v).sok = true ∧ ROk (der h v).dat ∧ Q (.str (der h v).dat.shown) h
theorem call_reprM (hg : X.A.guards = some []) (hu : X.A.units + 64 < cLine) : CallR X (.builtin "repr") (RNM Y reprM2) := by
  intro pins s σ H xs us Q I rx ⟨ι, hm, vs, Qm, hr, ra, ⟨v, e, hs, ok, q⟩, tq⟩
  subst e
  obtain ⟨x, rfl, r⟩ := rep1 ra
  obtain ⟨u, rfl, ru⟩ := rx.one
  obtain ⟨as, rd⟩ := Dp.reads I _ _ _ (der_dp X.K hr r hs) ru
  have fin : ∀ (h' : Heap) (t tk : Nat), (∀ b o, s.heap.get? b = some o → h'.get? b = some o) → EP X pins σ Q (.str (der hm v).dat.shown t) { s with heap := h', toks := tk } := fun h' t tk k =>
    ⟨.str _, H, I.kept (t' := tk) k, ⟨t, rfl⟩, tq.here hr (.str _) q⟩
  generalize (der hm v).dat = d at rd ok fin
  have len := ok.len
  cases rd with
  | none => exact PySem.P.repr_of_none (fin s.heap _ _ fun _ _ e => e)
  | bool b =>
    refine PySem.P.repr_of_bool ?_
    exact fin s.heap _ _ fun _ _ e => e
  | int i t => exact PySem.P.repr_of_int (by simpa [PyData.showable] using ok.sh) (fin s.heap _ _ fun _ _ e => e)
  | str y t => exact PySem.P.repr_of_str (fin s.heap _ _ fun _ _ e => e) ok.len
  | list h1 h2 h3 h4 => exact repr_of_reads' (.list h1 h2 h3 h4) ok.sh (PyData.noDict_hsm ok.nd) hg (by have := ok.dp; omega) (fun _ _ e => e) (fun h' u tk k => fin h' _ _ k) ok.len
  | tuple h1 h2 h3 h4 => exact repr_of_reads' (.tuple h1 h2 h3 h4) ok.sh (PyData.noDict_hsm ok.nd) hg (by have := ok.dp; omega) (fun _ _ e => e) (fun h' u tk k => fin h' _ _ k) ok.len
  | dict h1 h2 h3 h4 h5 => exact absurd ok.nd (by simp [PyData.hasDict])
end
end Mini
/-! Mini, part 15: the end of a proof: a head without lists, the law's call. -/
namespace Mini
open PySem PySem.Spec PyProof.Rows L2

/-! ### the head's facts over a part of the heap without lists (the script is none of it) -/
def noL (K : PySem.W.Frag) : PySem.W.Frag := K.filter fun p => !(p.2.cls == .type "list")
theorem lookup_mem {α β : Type} [BEq α] [LawfulBEq α] {a : α} {b : β} : ∀ {l : List (α × β)}, l.lookup a = some b → (a, b) ∈ l
  | [], h => nomatch h
  | (c, d) :: l, h => by
    by_cases e : a = c
    · subst e
      rw [List.lookup_cons, beq_self_eq_true] at h
      cases h
      exact List.mem_cons_self
    · rw [List.lookup_cons, beq_false_of_ne e] at h
      exact List.mem_cons_of_mem _ (lookup_mem h)
theorem frG_mem' {g : Addr → Option Obj} {as : List Addr} {a : Addr} {o : Obj} (h : (a, o) ∈ He.frG g as) : g a = some o := by
  unfold He.frG at h
  obtain ⟨b, _, e⟩ := List.mem_filterMap.mp h
  cases e2 : g b with
  | none => rw [e2] at e; cases e
  | some u => rw [e2] at e; cases e; exact e2
def obM (n : Nat) (fa : List He.Fa) (fn : List He.DefD) (g : Addr → Option Obj) : He.AlD := He.obsD fa fn (noL (He.frG g (He.asD g n)))
def hookM (n : Nat) (fa : List He.Fa) (fn : List He.DefD) : PySem.W.Hook where
  α := He.AlD
  obs := fun s => obM n fa fn s.heap.get?
  val := fun _ => He.valD fn
  says := fun _ h => ∃ K : PySem.W.Frag, K.In h ∧ He.SaysD fa fn K ∧ ∀ a o, K.lookup a = some o → (o.cls == .type "list") = false
  of := fun _ _ e => ⟨_, fun a o h => frG_mem' (List.mem_filter.mp (lookup_mem h)).1, e, fun a o h => by simpa using (List.mem_filter.mp (lookup_mem h)).2⟩
  keeps := fun _ _ _ ⟨K, hK, c⟩ k => ⟨K, PySem.W.Frag.In.keeps hK k, c⟩
theorem obM_eq {n : Nat} {fa : List He.Fa} {fn : List He.DefD} {g : Addr → Option Obj} {s : Shared} (h : ∀ a, g a = s.heap.get? a) : obM n fa fn g = (hookM n fa fn).obs s := by
  have e : g = s.heap.get? := funext h
  rw [e] <;> rfl

/-! ### the law's call -/
theorem cx_never {P : Program} {w : World} {outer : List Env} {H : Hp} {s : Shared} {u : Value} {s' : Shared} (h : CX P w outer H s (fun _ _ _ => False) u s') : False := by
  obtain ⟨_, _, _, _, _, _, _, _, _, _, _, _, h⟩ := h
  exact h
theorem sc_rep {Y : Lay} {ι : Nat → Addr} {H : Hp} : ∀ ns : List Int, RepAll Y ι 0 H (ns.map MV.int) (ns.map V.int)
  | [] => .nil
  | n :: ns => .cons (.int n) (sc_rep ns)
theorem law_callM {P : Program} {w : World} {K : PySem.W.Frag} {mg mb : Str → Option Value} {k : Nat} {fa a : Addr} {fd : FuncData} {x : Str} {Y : Lay} {sem : Sem} {s₁ : Shared} {vs : List Value} {ns : List Int}
    (KX : K.In s₁.heap) (hns : s₁.heap.Ns mainGlobals mg) (hb : s₁.heap.Ns builtinsNs mb) (hbb : ∀ x : Str, x ≠ "__name__" → mb x = bootBuiltins x) (hlim : s₁.heap.NoLimit) (hg : s₁.gens = #[])
    (ha : s₁.heap.get? a = some { cls := .type "list", data := .seq vs.toArray }) (hi : IntsAre vs ns) (hl : ns.length ≤ sizeLine) (hr : RoomG k callerA) (hk : K.lookup a = none)
    (F : ∀ base : Heap, K.In base → base.Ns mainGlobals mg → FnG Y P w K mg base k fa fd [x] sem) (hbind : ∀ (s : Shared) (u : Value), BindsTo s fd ⟨[u], []⟩ [(x, u)])
    (hsem : sem [.sc (ns.map .int)] [] (fun v _ => v = .bl true) (fun _ _ => False)) :
    codeAny (model P w) callerA (.call (.ref fa) ⟨[.ref a], []⟩) (fun r s' => r = .ok (.ret (.bool true)) ∧ OldK s₁.heap s'.heap ∧ s'.os = s₁.os ∧ AllBare s'.gens) s₁ := by
  have rv := vals_ints hi
  have lenV := hi.length
  obtain ⟨H, hHa, hHn⟩ : ∃ H : Hp, H a = some (.frz { cls := .type "list", data := .seq vs.toArray } (.lst (ns.map V.int))) ∧ ∀ b, b ≠ a → H b = none :=
    ⟨fun b => if b = a then some (.frz { cls := .type "list", data := .seq vs.toArray } (.lst (ns.map V.int))) else none, if_pos rfl, fun b hb => if_neg hb⟩
  have hok : HOk P w H s₁.heap := fun b u z => by
    by_cases hb : b = a
    · subst hb
      rw [hHa] at z
      cases z
      exact ⟨ha, by rw [List.length_map]; exact hl, vs, _, rv, ha⟩
    · rw [hHn b hb] at z
      cases z
  have hA : ∀ b, H b ≠ none → b = a := fun b z => by
    by_cases hb : b = a
    · exact hb
    · exact absurd (hHn b hb) z
  have base_of : ∀ {b : Addr} {o : Obj}, s₁.heap.get? b = some o → H b = none → (hidT s₁.heap H).get? b = some o := fun e n => hidT_get e n
  have noA : ∀ {b : Addr} {o : Obj} {es : Array DictEntry} {ep : Nat}, s₁.heap.get? b = some o → o.data = .dict es ep → H b = none := fun {b o es ep} e d => by
    cases q : H b with
    | none => rfl
    | some u =>
      have e' : b = a := hA b (by rw [q]; simp)
      subst e'
      rw [ha] at e; cases e
      have d' : Data.seq vs.toArray _ = Data.dict es ep := d
      cases d'
  have nsK : ∀ {b : Addr} {m : Str → Option Value}, s₁.heap.Ns b m → (hidT s₁.heap H).Ns b m := fun {b m} ⟨o, es, ep, e, d, r⟩ => ⟨o, es, ep, base_of e (noA e d), d, r⟩
  have hKb : K.In (hidT s₁.heap H) := fun b o e => base_of (KX b o e) (by
    cases q : H b with
    | none => rfl
    | some u =>
      have e' : b = a := hA b (by rw [q]; simp)
      subst e'
      rw [hk] at e; cases e)
  have hM : Mod K mg (hidT s₁.heap H) := ⟨hKb, nsK hns, ⟨mb, nsK hb, hbb⟩, let ⟨mc, h1, h2⟩ := hlim; ⟨mc, nsK h1, h2⟩⟩
  have e0 : Env0 P w K mg (hidT s₁.heap H) callerA [] s₁ H := ⟨rfl, hM, fun b o e => of_hidT e, Nat.le_of_eq (hidT_size _ _), trivial, fun b hb => absurd (show b ∈ ([] : List Addr) from hb) (by simp), hok, .of_eq hg⟩
  have hR : HR (Y.re fun _ => False) (fun _ => 0) [] H := ⟨fun i j hi => absurd hi (by simp), fun i c e => by simp at e, fun _ z => z.elim⟩
  refine codeAny_mono ((F _ hKb (nsK hns)).run (fun _ => False) callerA [] s₁ H ⟨[.ref a], []⟩ [.ref a] [.ref a] (fun v _ => v = .bl true) (fun _ _ _ => False) (fun _ => 0) [] [.sc (ns.map .int)] _ _ hr e0 (hbind s₁ (.ref a)) (.cons rfl .nil) hR
    (.cons (.sc (.inr ⟨_, hHa⟩) ⟨fun z => z, fun i hi => absurd hi (by simp)⟩ (sc_rep ns)) .nil) hsem (fun v h' ι' H' x hr' e' r q => ?_) (fun _ _ _ _ _ _ _ _ _ z => z.elim)) fun r s' h => ?_
  · subst q
    cases r
    rfl
  · cases r with
    | error e => exact (cx_never h).elim
    | ok fl =>
      cases fl with
      | next => exact False.elim h
      | brk => exact False.elim h
      | cont => exact False.elim h
      | ret u =>
        obtain ⟨v, H', os, bare, un, hok', r', q⟩ := h
        have q' : v = .bl true := q
        subst q'
        obtain rfl : u = Value.bool true := r'
        refine ⟨rfl, OldK.of_keep fun b o e => ?_, os, bare⟩
        cases q : H b with
        | none => exact un.keep b o e q (by intro z; exact absurd (show b ∈ ([] : List Addr) from z) (by simp)) (by simp)
        | some u =>
          have e' : b = a := hA b (by rw [q]; simp)
          subst e'
          have z2 := un.frzs b _ _ hHa
          obtain ⟨e1, _⟩ := hok b _ hHa
          obtain ⟨e2, _⟩ := hok' b _ z2
          rw [e] at e1; cases e1
          exact e2
theorem walk_ofM {l : PySem.W.OpenLaw} {n k m : Nat} {q : Program} {loose : List Str} {XP : (Str → Option Value) → Heap → Prop} {d : DefRec} {x : Str} {fas : List He.Fa} {fn : List He.DefD}
    (hn : l.most = some n) (hn2 : n ≤ sizeLine) (hdf : d.params.defaults = []) (hr : RoomG k callerA)
    (F : ∀ (w : World) (mg : Str → Option Value) (fa : Addr) (h : Heap) (K : PySem.W.Frag), K.In h → He.SaysD fas fn K → h.Ns mainGlobals mg → mg d.name = some (.ref fa) →
      ∃ (fd : FuncData) (Y : Lay) (sem : Sem), (∀ (s : Shared) (u : Value), BindsTo s fd ⟨[u], []⟩ [(x, u)]) ∧
        (∀ ns : List Int, ns.length ≤ n → sem [.sc (ns.map .int)] [] (fun v _ => v = .bl true) (fun _ _ => False)) ∧
        ∀ base : Heap, K.In base → base.Ns mainGlobals mg → FnG Y l.prog w K mg base k fa fd [x] sem) :
    PySem.W.WalkO q loose XP (fun w h => (hookM m fas fn).says w h) l.row.toRowW d [] (fun f vs => PySem.call f vs) := by
  refine Att.attach_call hn hdf fun w s₀ s₁ mg mb fa o pm cd doc a vs ns G Y ho hd hcd hmg hobj hints hlen hg => ?_
  obtain ⟨K, KX, c, nl⟩ := Y
  obtain ⟨fd, Y, sem, hb, hsem, hF⟩ := F w mg fa _ K KX c G.T.g hmg
  have hk : K.lookup a = none := by
    cases e : K.lookup a with
    | none => rfl
    | some o =>
      have e2 := KX a o e
      rw [hobj] at e2
      cases e2
      exact absurd (nl a _ e) (by simp)
  exact law_callM KX G.T.g G.T.b G.T.builtins G.T.nolimit hg hobj hints (Nat.le_trans hlen hn2) hr hk hF hb (hsem ns hlen)
end Mini
/-! Mini, part 16: list comprehensions as values. -/
namespace Mini
open PySem PySem.Spec PyProof.Rows L2
section
variable {Y : Lay} {W : WX} {X : Cx} {mi : MI} {g : MG} {t : MT} {m : ME} {elt tg iter : Expr} {ifs : List Expr} {scope : Scope} {own : List (Str × Nat)} {pos : Pos}
theorem takes_no : Takes X NoW := fun u s' ⟨_, _, _, _, _, _, _, _, _, _, _, _, _, _, _, _, z⟩ => z.elim
theorem sn_lc (hc : X.calm = true) (hN : X.N.Nodup) (hi : SI Y W X mi tg iter) (ok : blkC X.N X.env.scope scope own = true)
    (hg : ∀ (D : Addr) (s : Shared) (H : Hp) (C : Addr) (cl : List (Str × Addr)) (fp : List Addr), SGo (Y.hide D) (X.blk s H scope (compEnvC scope cl C X.env) fp) (own.map (·.2)) g tg)
    (ht : ∀ (D : Addr) (s : Shared) (H : Hp) (C : Addr) (cl : List (Str × Addr)) (fp : List Addr), STs (Y.hide D) NoW (X.blk s H scope (compEnvC scope cl C X.env) fp) t ifs)
    (he : ∀ (D : Addr) (s : Shared) (H : Hp) (C : Addr) (cl : List (Str × Addr)) (fp : List Addr), SE (Y.hide D) NoW (X.blk s H scope (compEnvC scope cl C X.env) fp) m elt) (hs : ∀ x, foldedSetIterable iter X.env x = pure x := by intro _; rfl) :
    SE Y W X (mLc mi g t m (own.map (·.2))) (.ListComp elt [⟨tg, iter, ifs, 0⟩] scope pos) :=
  peI (pe_lc hc hN hi (blkOk_by ok) (fun s H C cl fp => pgU fun D => hg D s H C cl fp) (fun s H C cl fp => ptsU fun D => ht D s H C cl fp) (fun s H C cl fp => peU fun D => he D s H C cl fp) hs) fun s H Q h =>
    lc_read (K := fun (ys : List MV) (h2 : MHp) (Q : MQ) => Q (MV.fl ys) h2) h fun ι hm H ys zs Qm D H0 a1 a2 a3 a4 a5 n ι0 b1 b2 b3 b4 => kF a1 a2 a3 a4 a5 n ι0 b1 b2 b3 b4
theorem sn_lcC (hc : X.calm = true) (hN : X.N.Nodup) (hi : SI Y W X mi tg iter) (ok : blkC X.N X.env.scope scope own = true)
    (hg : ∀ (D : Addr) (s : Shared) (H : Hp) (C : Addr) (cl : List (Str × Addr)) (fp : List Addr), SGo (Y.hide D) (X.blk s H scope (compEnvC scope cl C X.env) fp) (own.map (·.2)) g tg)
    (ht : ∀ (D : Addr) (s : Shared) (H : Hp) (C : Addr) (cl : List (Str × Addr)) (fp : List Addr), STs (Y.hide D) NoW (X.blk s H scope (compEnvC scope cl C X.env) fp) t ifs)
    (he : ∀ (D : Addr) (s : Shared) (H : Hp) (C : Addr) (cl : List (Str × Addr)) (fp : List Addr), SE (Y.hide D) NoW (X.blk s H scope (compEnvC scope cl C X.env) fp) m elt) (hs : ∀ x, foldedSetIterable iter X.env x = pure x := by intro _; rfl) :
    SE Y W X (mLcC mi g t m (own.map (·.2))) (.ListComp elt [⟨tg, iter, ifs, 0⟩] scope pos) :=
  peI (pe_lc hc hN hi (blkOk_by ok) (fun s H C cl fp => pgU fun D => hg D s H C cl fp) (fun s H C cl fp => ptsU fun D => ht D s H C cl fp) (fun s H C cl fp => peU fun D => he D s H C cl fp) hs) fun s H Q h =>
    lc_read (K := fun (ys : List MV) (h2 : MHp) (Q : MQ) => Q (MV.ref h2.length) (h2 ++ [Cell.lst ys])) h fun ι hm H ys zs Qm D H0 a1 a2 a3 a4 a5 n ι0 b1 b2 b3 b4 => kC a1 a2 a3 a4 a5 n ι0 b1 b2 b3 b4
/-- name = [..] on one line, the name a local -/
theorem ss_lc {i : Nat} {y : Str} {py spos : Pos} (hc : X.calm = true) (hN : X.N.Nodup) (hyl : X.env.scope.names.lookup y = some .local) (hsw : swapsWith (.ListComp elt [⟨tg, iter, ifs, 0⟩] scope pos) (some (.Name y py)) spos.line X.env = pure true)
    (hi : SI Y W X mi tg iter) (ok : blkC X.N X.env.scope scope own = true)
    (hg : ∀ (D : Addr) (s : Shared) (H : Hp) (C : Addr) (cl : List (Str × Addr)) (fp : List Addr), SGo (Y.hide D) (X.blk s H scope (compEnvC scope cl C X.env) fp) (own.map (·.2)) g tg)
    (ht : ∀ (D : Addr) (s : Shared) (H : Hp) (C : Addr) (cl : List (Str × Addr)) (fp : List Addr), STs (Y.hide D) NoW (X.blk s H scope (compEnvC scope cl C X.env) fp) t ifs)
    (he : ∀ (D : Addr) (s : Shared) (H : Hp) (C : Addr) (cl : List (Str × Addr)) (fp : List Addr), SE (Y.hide D) NoW (X.blk s H scope (compEnvC scope cl C X.env) fp) m elt) (hy : X.N[i]? = some y := by rfl) (hs : ∀ x, foldedSetIterable iter X.env x = pure x := by intro _; rfl) :
    SS Y W X (mAsg (mLc mi g t m (own.map (·.2))) (gN i)) (.Assign [.Name y py] (.ListComp elt [⟨tg, iter, ifs, 0⟩] scope pos) spos) :=
  psI (ps_setLc hc hN hy hyl hsw hi (blkOk_by ok) (fun s H C cl fp => pgU fun D => hg D s H C cl fp) (fun s H C cl fp => ptsU fun D => ht D s H C cl fp) (fun s H C cl fp => peU fun D => he D s H C cl fp) hs) fun D0 s H h => by
    obtain ⟨ι, sm, hm, Dm, hr, rs, q, td⟩ := h
    have hh : tM Y W (mLc mi g t m (own.map (·.2))) s H (fun x H1 => gName i x s H1 D0.nx) :=
      ⟨ι, sm, hm, _, _, hr, rs, q, fun v h1 ι1 H1 x hr1 e1 r1 q1 => td.nx _ _ _ _ _ hr1 e1 ((rs.mono e1 hr.live).set i r1) q1, td.ex.ex hr.live rs⟩
    exact lc_read (K := fun (ys : List MV) (h2 : MHp) (Q : MQ) => Q (MV.fl ys) h2) hh fun ι hm H ys zs Qm D H0 a1 a2 a3 a4 a5 n ι0 b1 b2 b3 b4 => kF a1 a2 a3 a4 a5 n ι0 b1 b2 b3 b4
theorem ss_lcC {i : Nat} {y : Str} {py spos : Pos} (hc : X.calm = true) (hN : X.N.Nodup) (hyl : X.env.scope.names.lookup y = some .local) (hsw : swapsWith (.ListComp elt [⟨tg, iter, ifs, 0⟩] scope pos) (some (.Name y py)) spos.line X.env = pure true)
    (hi : SI Y W X mi tg iter) (ok : blkC X.N X.env.scope scope own = true)
    (hg : ∀ (D : Addr) (s : Shared) (H : Hp) (C : Addr) (cl : List (Str × Addr)) (fp : List Addr), SGo (Y.hide D) (X.blk s H scope (compEnvC scope cl C X.env) fp) (own.map (·.2)) g tg)
    (ht : ∀ (D : Addr) (s : Shared) (H : Hp) (C : Addr) (cl : List (Str × Addr)) (fp : List Addr), STs (Y.hide D) NoW (X.blk s H scope (compEnvC scope cl C X.env) fp) t ifs)
    (he : ∀ (D : Addr) (s : Shared) (H : Hp) (C : Addr) (cl : List (Str × Addr)) (fp : List Addr), SE (Y.hide D) NoW (X.blk s H scope (compEnvC scope cl C X.env) fp) m elt) (hy : X.N[i]? = some y := by rfl) (hs : ∀ x, foldedSetIterable iter X.env x = pure x := by intro _; rfl) :
    SS Y W X (mAsg (mLcC mi g t m (own.map (·.2))) (gN i)) (.Assign [.Name y py] (.ListComp elt [⟨tg, iter, ifs, 0⟩] scope pos) spos) :=
  psI (ps_setLc hc hN hy hyl hsw hi (blkOk_by ok) (fun s H C cl fp => pgU fun D => hg D s H C cl fp) (fun s H C cl fp => ptsU fun D => ht D s H C cl fp) (fun s H C cl fp => peU fun D => he D s H C cl fp) hs) fun D0 s H h => by
    obtain ⟨ι, sm, hm, Dm, hr, rs, q, td⟩ := h
    have hh : tM Y W (mLcC mi g t m (own.map (·.2))) s H (fun x H1 => gName i x s H1 D0.nx) :=
      ⟨ι, sm, hm, _, _, hr, rs, q, fun v h1 ι1 H1 x hr1 e1 r1 q1 => td.nx _ _ _ _ _ hr1 e1 ((rs.mono e1 hr.live).set i r1) q1, td.ex.ex hr.live rs⟩
    exact lc_read (K := fun (ys : List MV) (h2 : MHp) (Q : MQ) => Q (MV.ref h2.length) (h2 ++ [Cell.lst ys])) hh fun ι hm H ys zs Qm D H0 a1 a2 a3 a4 a5 n ι0 b1 b2 b3 b4 => kC a1 a2 a3 a4 a5 n ι0 b1 b2 b3 b4
end
end Mini
/-! Mini, part 17: the last operators; short names for a text's facts. -/
namespace Mini
open PySem PySem.Spec PyProof.Rows L2
/-- +, of anything; a list's sum a tree, a cell -/
def plusM (v u : MV) (h : MHp) (Q : MQ) : Prop := match v with
  | .int i => addM (.int i) u h Q
  | .str x => addM (.str x) u h Q
  | .tup xs => addM (.tup xs) u h Q
  | v => catF v u h Q
section
variable {Y : Lay} {W : WX} {X : Cx}
theorem op_plusM : OpR X (binaryOp .Add) (R2M Y plusM) := by
  intro pins s σ H x y v' u' Q I rx ry ⟨ι, hm, v, u, Qm, hr, rv, ru, q, tq⟩
  cases v with
  | int i => exact op_addM pins s σ H x y v' u' Q I rx ry ⟨ι, hm, _, u, Qm, hr, rv, ru, q, tq⟩
  | str i => exact op_addM pins s σ H x y v' u' Q I rx ry ⟨ι, hm, _, u, Qm, hr, rv, ru, q, tq⟩
  | tup i => exact op_addM pins s σ H x y v' u' Q I rx ry ⟨ι, hm, _, u, Qm, hr, rv, ru, q, tq⟩
  | _ => exact op_catFM pins s σ H x y v' u' Q I rx ry ⟨ι, hm, _, u, Qm, hr, rv, ru, q, tq⟩
theorem st_chain {a b c : ME} {ea eb ec : Expr} {pos : Pos} {r r' : MV → MV → MHp → MQ → Prop} {op op' : CmpOp} (ho : OpR X (compareOp op) (R2M Y r)) (ho' : OpR X (compareOp op') (R2M Y r')) (ha : SE Y W X a ea) (hb : SE Y W X b eb) (hc : SE Y W X c ec)
    (hm : lastMarks [op, op'] [eb, ec] = false := by with_unfolding_all rfl) : ST Y W X (tV (mChain r r' a b c)) (.Compare ea [op, op'] [eb, ec] pos) :=
  ptI (pt_chain ho ho' ha hb hc hm) fun s H Q h => tM_chain (tMT_val h)
end
/-! ### a, b = x, y -/
def mPar (i j : Nat) (a : MA) : MS := fun s h D => a s h (fun vs h1 => ∃ v w, vs = [v, w] ∧ D.nx ((s.set i (some v)).set j (some w)) h1) (fun e h' => D.ex e s h')
def mPar3 (i j l : Nat) (a : MA) : MS := fun s h D => a s h (fun vs h1 => ∃ u v w, vs = [u, v, w] ∧ D.nx (((s.set i (some u)).set j (some v)).set l (some w)) h1) (fun e h' => D.ex e s h')
section
variable {Y : Lay} {W : WX} {X : Cx}
theorem ss_par {i j : Nat} {x y : Str} {a b : Expr} {ta : MA} {px py pt pos : Pos} {kt k2 pt2} (hN : X.N.Nodup) (ha : SA Y W X ta [a, b]) (hc : X.calm = true := by rfl) (hi : X.N[i]? = some x := by rfl) (hj : X.N[j]? = some y := by rfl) (hij : i ≠ j := by decide)
    (hx : X.env.scope.names.lookup x = some .local := by rfl) (hy : X.env.scope.names.lookup y = some .local := by rfl)
    (hw : swappedStores [.Tuple [.Name x px, .Name y py] kt pt] (.Tuple [a, b] k2 pt2) X.env = pure (some [x, y]) := by rfl)
    (hs : swapsWithSole [.Tuple [.Name x px, .Name y py] kt pt] (.Tuple [a, b] k2 pt2) pos.line X.env = pure false := by rfl) :
    SS Y W X (mPar i j ta) (.Assign [.Tuple [.Name x px, .Name y py] kt pt] (.Tuple [a, b] k2 pt2) pos) :=
  psI (ps_par hc hN hi hj hij hx hy ha hw hs) fun D s H ⟨ι, sm, hm, Dm, hr, rs, q, td⟩ => by
    refine ⟨ι, sm, hm, _, _, hr, rs, q, fun vs h1 ι1 H1 xs hr1 e1 r1 q1 => ?_, td.ex.ex hr.live rs⟩
    obtain ⟨v, w, rfl, q1⟩ := q1
    obtain ⟨xv, yv, rfl, ra, rb⟩ := rep2 r1
    exact ⟨xv, yv, rfl, td.nx _ _ _ _ _ hr1 e1 (((rs.mono e1 hr.live).set i ra).set j rb) q1⟩
theorem ss_par3 {i j l : Nat} {x y z : Str} {a b c : Expr} {ta : MA} {px py pz pt pos : Pos} {kt k2 pt2} (hN : X.N.Nodup) (ha : SA Y W X ta [a, b, c]) (hc : X.calm = true := by rfl) (hi : X.N[i]? = some x := by rfl) (hj : X.N[j]? = some y := by rfl) (hl : X.N[l]? = some z := by rfl) (hij : i ≠ j := by decide) (hil : i ≠ l := by decide) (hjl : j ≠ l := by decide)
    (hx : X.env.scope.names.lookup x = some .local := by rfl) (hy : X.env.scope.names.lookup y = some .local := by rfl) (hz : X.env.scope.names.lookup z = some .local := by rfl)
    (hw : swappedStores [.Tuple [.Name x px, .Name y py, .Name z pz] kt pt] (.Tuple [a, b, c] k2 pt2) X.env = pure (some [x, y, z]) := by rfl)
    (hs : swapsWithSole [.Tuple [.Name x px, .Name y py, .Name z pz] kt pt] (.Tuple [a, b, c] k2 pt2) pos.line X.env = pure false := by rfl) :
    SS Y W X (mPar3 i j l ta) (.Assign [.Tuple [.Name x px, .Name y py, .Name z pz] kt pt] (.Tuple [a, b, c] k2 pt2) pos) :=
  psI (ps_par3 hc hN hi hj hl hij hil hjl hx hy hz ha hw hs) fun D s H ⟨ι, sm, hm, Dm, hr, rs, q, td⟩ => by
    refine ⟨ι, sm, hm, _, _, hr, rs, q, fun vs h1 ι1 H1 xs hr1 e1 r1 q1 => ?_, td.ex.ex hr.live rs⟩
    obtain ⟨u, v, w, rfl, q1⟩ := q1
    cases r1 with
    | cons ra r2 =>
      obtain ⟨yv, zv, rfl, rb, rc⟩ := rep2 r2
      exact ⟨_, yv, zv, rfl, td.nx _ _ _ _ _ hr1 e1 ((((rs.mono e1 hr.live).set i ra).set j rb).set l rc) q1⟩
end
theorem RoomG.un {k : Nat} {A : Around} (r : RoomG k A) : A.units + 64 < cLine := r.rm.units
theorem RoomG.un65 {k : Nat} {A : Around} (r : RoomG k A) : A.units + 65 < cLine := by have := r.rm.un; omega
/-- a def of the text -/
abbrev FnP (K : PySem.W.Frag) (x : Str) (st : Stmt) (f : Addr) (fd : FuncData) : Prop := FunD K x x (defArgs st) (defBody st) (defScope st) [] [] f fd
/-- THE RULE for a def of the text -/
theorem funOk {Y : Lay} {P : Program} {w : World} {K : PySem.W.Frag} {mg : Str → Option Value} {base : Heap} {x qual : Str} {params : Arguments} {body : List Stmt} {scope : Scope} {f : Addr} {fd : FuncData} {N ps : List Str} {np ns k : Nat} {m : MS} {md mx : Md}
    (F : FunD K x qual params body scope [] [] f fd) (S : FnScope N ps scope) (hnp : ps.length = np) (hns : N.length = ns) (hmd : MdOk md) (hmx : MxOk mx)
    (hbody : ∀ (cdv : Value) (hid : Addr → Prop) (A : Around) (outer : List Env) (s : Shared) (H : Hp) (E : XK), RoomG k (A.deeper (envOfC qual scope s.heap.objs.size f cdv)) →
      SSs (Y.re hid) (fun c d _ H' => E c d H') (cxOf (CX P w) P w K mg base N qual scope f cdv A outer s H E) m body) :
    FnG Y P w K mg base (k + 1) f fd ps (mFn md mx np ns m) := by
  obtain ⟨oc, od, dV, kV, doc, pm, an, cdv, ct, osl, rfl, lk, hcd, _, _⟩ := F.ex
  exact fn_ofM lk hcd S hnp hns hmd hmx fun hid A outer s H E hr => hbody cdv hid A outer s H E hr
end Mini
/-! Mini, part 18: rules for the plain side: loops, blocks, ints. -/
namespace Mini
open PySem PySem.Spec PyProof.Rows L2

theorem for_ind {ok : MHp → Prop} {g : MG} {b : MS} {D : MD} (I : List MV → MSt → MHp → Prop) (hok : ∀ xs s h, I xs s h → ok h) (hend : ∀ s h, I [] s h → D.nx s h)
    (hstep : ∀ x xs s h K, I (x :: xs) s h → (∀ s2 h2, I xs s2 h2 → K s2 h2) → g x s h (fun s1 h1 => b s1 h1 { D with nx := K, ct := K, bk := D.nx }) (fun e h' => D.ex e s h')) : ∀ xs s h, I xs s h → forM ok g b xs s h D
  | [], s, h, i => ⟨hok _ _ _ i, hend s h i⟩
  | x :: xs, s, h, i => ⟨hok _ _ _ i, hstep x xs s h _ i fun s2 h2 i2 => for_ind I hok hend hstep xs s2 h2 i2⟩
theorem comp_ind {ok : MHp → Prop} {g : MG} {t : MT} {elt : ME} {s0 : MSt} {Q : List MV → MHp → Prop} (I : List MV → List MV → MHp → Prop) (hok : ∀ xs acc h, I xs acc h → ok h) (hend : ∀ acc h, I [] acc h → Q acc h)
    (hstep : ∀ (x : MV) (xs acc : List MV) (h : MHp) (K : List MV → MHp → Prop), I (x :: xs) acc h → (∀ acc2 h2, I xs acc2 h2 → K acc2 h2) → g x s0 h (fun s1 h1 => t s1 h1 (fun b h2 => if b = true then elt s1 h2 (fun v h3 => acc.length < sizeLine ∧ K (acc ++ [v]) h3) NoE else K acc h2) NoE) NoE) :
    ∀ xs acc h, I xs acc h → compM ok g t elt s0 xs acc h Q
  | [], acc, h, i => ⟨hok _ _ _ i, hend acc h i⟩
  | x :: xs, acc, h, i => ⟨hok _ _ _ i, hstep x xs acc h (fun acc2 h2 => compM ok g t elt s0 xs acc2 h2 Q) i fun a2 h2 i2 => comp_ind I hok hend hstep xs a2 h2 i2⟩
/-- a block that leaves the heap: f x the item that x gives, if any -/
theorem comp_pure {ok : MHp → Prop} {g : MG} {t : MT} {elt : ME} {s0 : MSt} {Q : List MV → MHp → Prop} {h : MHp} (f : MV → Option MV) (hok : ok h) :
    ∀ (xs acc : List MV), acc.length + xs.length ≤ sizeLine → (∀ x ∈ xs, ∀ (acc : List MV) (K : List MV → MHp → Prop), acc.length < sizeLine → K (acc ++ (f x).toList) h → g x s0 h (fun s1 h1 => t s1 h1 (fun b h2 => if b = true then elt s1 h2 (fun v h3 => acc.length < sizeLine ∧ K (acc ++ [v]) h3) NoE else K acc h2) NoE) NoE) →
    Q (acc ++ xs.filterMap f) h → compM ok g t elt s0 xs acc h Q
  | [], acc, _, _, q => ⟨hok, by simpa using q⟩
  | x :: xs, acc, hl, hs, q => by
    rw [List.length_cons] at hl
    refine ⟨hok, hs x List.mem_cons_self acc (fun acc2 h2 => compM ok g t elt s0 xs acc2 h2 Q) (by omega) ?_⟩
    refine comp_pure f hok xs _ ?_ (fun y hy => hs y (List.mem_cons_of_mem _ hy)) ?_
    · have : (f x).toList.length ≤ 1 := by cases f x <;> simp
      rw [List.length_append]
      omega
    · rw [List.append_assoc]
      rw [List.filterMap_cons] at q
      cases e : f x with
      | none => rw [e] at q; simpa using q
      | some v => rw [e] at q; simpa using q
theorem while_ind {t : MT} {b : MS} {D : MD} (I : Nat → MSt → MHp → Prop)
    (hstep : ∀ n s h K, I n s h → (∀ m s2 h2, m < n → I m s2 h2 → K s2 h2) → t s h (fun c h1 => if c = true then b s h1 { D with nx := K, ct := K, bk := D.nx } else D.nx s h1) (fun e h' => D.ex e s h')) {n : Nat} {s : MSt} {h : MHp} (i : I n s h) : mWhile t b s h D := by
  have key : ∀ (f n : Nat) (s : MSt) (h : MHp), n < f → I n s h → whileN t b f s h D := by
    intro f
    induction f with
    | zero => intro n s h hn; omega
    | succ f ih => exact fun n s h hn i => hstep n s h (fun s2 h2 => whileN t b f s2 h2 D) i fun m s2 h2 hm i2 => ih m s2 h2 (by omega) i2
  exact ⟨n + 1, key (n + 1) n s h (Nat.lt_succ_self _) i⟩

/-! ### ints -/
theorem fmod_bd {i j : Int} (h : 0 < j) : 0 ≤ i.fmod j ∧ i.fmod j < j := ⟨Int.fmod_nonneg_of_pos _ h, Int.fmod_lt_of_pos _ h⟩
theorem atI_at {α : Type} {xs : List α} {i : Int} (h0 : 0 ≤ i) (h1 : i < xs.length) : ∃ x, L2.atI xs i = some x ∧ xs[i.toNat]? = some x := by
  have hl : i.toNat < xs.length := by omega
  refine ⟨xs[i.toNat], ?_, List.getElem?_eq_getElem hl⟩
  have := L2.atI_nat (xs := xs) (j := i.toNat) (v := xs[i.toNat]) (List.getElem?_eq_getElem hl)
  rwa [Int.toNat_of_nonneg h0] at this
theorem atI_int {ps : List Int} {i : Int} (h0 : 0 ≤ i) (h1 : i < ps.length) : ∃ p, p ∈ ps ∧ L2.atI (ps.map MV.int) i = some (.int p) := by
  obtain ⟨x, e1, e2⟩ := atI_at (xs := ps.map MV.int) h0 (by simpa using h1)
  rw [List.getElem?_map, Option.map_eq_some_iff] at e2
  obtain ⟨p, hp, rfl⟩ := e2
  exact ⟨p, List.mem_of_getElem? hp, e1⟩
/-- a def's end where no cell is new -/
theorem mdF_same {n : Nat} {Q : MQ} {v : MV} {h : MHp} (hl : h.length = n) (ho : oldOk n h = true) (hv : (frz n h 8 v).lo n = true) (q : Q (frz n h 8 v) h) : mdF n Q v h := by
  have e : h.take n = h := List.take_of_length_le (by omega)
  refine ⟨by omega, ho, hv, ?_⟩
  rw [e]
  exact q
theorem mul_bd {a b A B : Int} (ha : 0 ≤ a) (hA : a ≤ A) (hb : 0 ≤ b) (hB : b ≤ B) : 0 ≤ a * b ∧ a * b ≤ A * B :=
  ⟨Int.mul_nonneg ha hb, Int.mul_le_mul hA hB hb (Int.le_trans ha hA)⟩
theorem cpow {i j : Int} (h0 : 0 ≤ i) (h1 : i < 2 ^ 64) (h2 : 0 ≤ j) (h3 : j ≤ 1000000) : CPow i j := ⟨h2, h3, by omega⟩
theorem cmulL {i j : Int} (h0 : -(2 ^ 64) < i) (h1 : i < 2 ^ 64) : CMul i j := .inl ⟨h0, h1⟩
theorem cmulR {i j : Int} (h0 : -(2 ^ 64) < j) (h1 : j < 2 ^ 64) : CMul i j := .inr ⟨h0, h1⟩
theorem smallLine {n : Nat} (h : n ≤ 16777216) : n ≤ sizeLine := by rw [sizeLine_eq]; exact h
/-- i mod a number out of a list of such -/
theorem modM_ps {i p : Int} {h : MHp} {Q : MQ} (hp : 0 < p) (q : Q (.int (i.fmod p)) h) : modM (.int i) (.int p) h Q := ⟨by omega, q⟩
theorem atI0 {α : Type} {x : α} {xs : List α} : L2.atI (x :: xs) 0 = some x := L2.atI_nat (j := 0) rfl
theorem atI1 {α : Type} {x y : α} {xs : List α} : L2.atI (x :: y :: xs) 1 = some y := L2.atI_nat (j := 1) rfl
theorem atI2 {α : Type} {x y z : α} {xs : List α} : L2.atI (x :: y :: z :: xs) 2 = some z := L2.atI_nat (j := 2) rfl
theorem ixN30 : L2.ixN 3 0 = some 0 := rfl
theorem ixN31 : L2.ixN 3 1 = some 1 := rfl
theorem ixN32 : L2.ixN 3 2 = some 2 := rfl
/-! ### data keeps at a def's end -/
theorem sokAll_iff {xs : List MV} : sokAll xs = true ↔ ∀ x ∈ xs, x.sok = true := by
  induction xs with
  | nil => simp [sokAll]
  | cons x xs ih => simp [sokAll, ih]
theorem frz_sok {n : Nat} {h : MHp} : ∀ (k : Nat) {v : MV}, v.sok = true → frz n h k v = v
  | 0, v, _ => rfl
  | k + 1, v, hv => by
    have all : ∀ {xs : List MV}, sokAll xs = true → xs.map (frz n h k) = xs := by
      intro xs hx
      have := sokAll_iff.mp hx
      conv => rhs; rw [← List.map_id xs]
      exact List.map_congr_left fun x hx => frz_sok k (this x hx)
    cases v with
    | tup xs => simp only [MV.sok] at hv; simp only [frz, all hv]
    | fl xs => simp only [MV.sok] at hv; simp only [frz, all hv]
    | ref i => simp [MV.sok] at hv
    | _ => rfl
mutual
theorem lo_sok (n : Nat) : ∀ v : MV, v.sok = true → v.lo n = true
  | .non, _ => rfl
  | .bl _, _ => rfl
  | .int _, _ => rfl
  | .str _, _ => rfl
  | .tup xs, h => loAll_sok n xs (by simpa [MV.sok] using h)
  | .fl xs, h => loAll_sok n xs (by simpa [MV.sok] using h)
  | .sc xs, h => loAll_sok n xs (by simpa [MV.sok] using h)
  | .fd _ _, h => by simp [MV.sok] at h
  | .fs _, h => by simp [MV.sok] at h
  | .fi _ _, h => by simp [MV.sok] at h
  | .ex _ _, h => by simp [MV.sok] at h
  | .ref _, h => by simp [MV.sok] at h
theorem loAll_sok (n : Nat) : ∀ xs : List MV, sokAll xs = true → loAll n xs = true
  | [], _ => rfl
  | x :: xs, h => by
    simp only [sokAll, Bool.and_eq_true] at h
    simp only [loAll, Bool.and_eq_true]
    exact ⟨lo_sok n x h.1, loAll_sok n xs h.2⟩
end
/-- a def's end: data out of an old heap; new cells go -/
theorem mdF_sok {n : Nat} {Q : MQ} {v : MV} {h u : MHp} (hl : h.length = n) (ho : oldOk n h = true) (hv : v.sok = true) (q : Q v h) : mdF n Q v (h ++ u) := by
  have e : (h ++ u).take n = h := by rw [← hl, List.take_left']; rfl
  refine ⟨by rw [List.length_append]; omega, ?_, by rw [frz_sok 8 hv]; exact lo_sok n v hv, by rw [frz_sok 8 hv, e]; exact q⟩
  unfold oldOk at ho ⊢
  rw [e]
  rw [List.take_of_length_le (by omega)] at ho
  exact ho
/-- .. of a new list of data -/
theorem mdF_new {n : Nat} {Q : MQ} {i : Nat} {xs : List MV} {h u : MHp} (hl : h.length = n) (ho : oldOk n h = true) (hi : n ≤ i) (hc : (h ++ u)[i]? = some (.lst xs)) (hv : sokAll xs = true) (q : Q (.fl xs) h) : mdF n Q (.ref i) (h ++ u) := by
  have e : (h ++ u).take n = h := by rw [← hl, List.take_left']; rfl
  have ef : frz n (h ++ u) 8 (.ref i) = .fl xs := by
    show (if i < n then _ else _) = _
    rw [if_neg (by omega), hc]
    show MV.fl (xs.map (frz n (h ++ u) 7)) = _
    have := sokAll_iff.mp hv
    congr 1
    conv => rhs; rw [← List.map_id xs]
    exact List.map_congr_left fun x hx => frz_sok 7 (this x hx)
  refine ⟨by rw [List.length_append]; omega, ?_, by rw [ef]; exact loAll_sok n xs hv, by rw [ef, e]; exact q⟩
  unfold oldOk at ho ⊢
  rw [e]
  rw [List.take_of_length_le (by omega)] at ho
  exact ho
end Mini
/-! Mini, part 19: how long a tree's text may be; what repr asks. -/
namespace Mini
open PySem PySem.Spec PyProof.Rows L2
mutual
/-- a bound of the text's length -/
def MV.sz : MV → Nat
  | .int _ => 1921
  | .str x => 10 * x.length + 2
  | .tup xs => szAll xs + 4
  | .fl xs => szAll xs + 4
  | .sc xs => szAll xs + 4
  | _ => 6
def szAll : List MV → Nat
  | [] => 0
  | x :: xs => x.sz + 2 + szAll xs
end
mutual
/-- its ints can be shown, its texts are texts -/
def MV.shb : MV → Bool
  | .int i => decide (i.natAbs.log2 < 1920)
  | .str x => x.cps.toList.all fun c => decide (c < 16 ^ 8)
  | .tup xs => shbAll xs
  | .fl xs => shbAll xs
  | .sc xs => shbAll xs
  | _ => true
def shbAll : List MV → Bool
  | [] => true
  | x :: xs => x.shb && shbAll xs
end
theorem textFrom_le : ∀ (ts : List Str) (k : Nat) (acc : Str), (textFrom k acc ts).length ≤ acc.length + piled ts
  | [], k, acc => by show acc.length ≤ acc.length + 0; omega
  | t :: r, k, acc => by
    have h := textFrom_le r (k + 1) (acc ++ (if k > 0 then ", " else "" : String) ++ t)
    have e : (acc ++ (if k > 0 then ", " else "" : String) ++ t).length ≤ acc.length + 2 + t.length := by
      rw [strLen_append, strLen_append]
      have : (Str.ofString (if k > 0 then ", " else "" : String)).length ≤ 2 := by split <;> decide
      have e2 : ((if k > 0 then ", " else "" : String) : Str).length = (Str.ofString (if k > 0 then ", " else "" : String)).length := rfl
      omega
    have ep : piled (t :: r) = t.length + 2 + piled r := by simp [piled]
    show (textFrom (k + 1) (acc ++ (if k > 0 then ", " else "" : String) ++ t) r).length ≤ _
    omega
theorem listText_le (ts : List Str) : (listText ts).length ≤ piled ts + 2 := by
  have h := textFrom_le ts 0 "["
  unfold listText
  rw [strLen_append]
  have e1 : (("[" : String) : Str).length = 1 := rfl
  have e2 : (("]" : String) : Str).length = 1 := rfl
  omega
theorem tupleText_le (ts : List Str) : (tupleText ts).length ≤ piled ts + 3 := by
  unfold tupleText
  rw [strLen_append, strLen_append]
  have e1 : (("(" : String) : Str).length = 1 := rfl
  have e2 : ((if ts.length == 1 then ",)" else ")" : String) : Str).length ≤ 2 := by split <;> decide
  by_cases h : ts = []
  · subst h
    have : (Str.join ", " ([] : List Str)).length = 0 := rfl
    omega
  · have := join_length_add ts h
    omega
mutual
theorem shown_le : ∀ v : MV, v.sok = true → v.shb = true → v.dat.shown.length ≤ v.sz
  | .non, _, _ => by decide
  | .bl b, _, _ => by cases b <;> decide
  | .int i, _, h => by
    have e := int_text_length_le (a := i) (k := 1920) (by decide) (by simpa [MV.shb] using h)
    show (Str.ofString (toString i)).length ≤ 1921
    rw [PySem.ofString_length]
    omega
  | .str x, _, h => by
    have hx : ∀ c ∈ x.cps.toList, c < 16 ^ 8 := by
      intro c hc
      have h' : (x.cps.toList.all fun c => decide (c < 16 ^ 8)) = true := h
      exact of_decide_eq_true (List.all_eq_true.mp h' c hc)
    exact StrLaws.reprText_len x hx
  | .tup xs, hs, h => by
    have q := shownAll_le xs (by simpa [MV.sok] using hs) (by simpa [MV.shb] using h)
    have t := tupleText_le (PyData.shownAll (datAll xs))
    show (tupleText (PyData.shownAll (datAll xs))).length ≤ szAll xs + 4
    omega
  | .fl xs, hs, h => by
    have q := shownAll_le xs (by simpa [MV.sok] using hs) (by simpa [MV.shb] using h)
    have t := listText_le (PyData.shownAll (datAll xs))
    show (listText (PyData.shownAll (datAll xs))).length ≤ szAll xs + 4
    omega
  | .sc xs, hs, h => by
    have q := shownAll_le xs (by simpa [MV.sok] using hs) (by simpa [MV.shb] using h)
    have t := listText_le (PyData.shownAll (datAll xs))
    show (listText (PyData.shownAll (datAll xs))).length ≤ szAll xs + 4
    omega
  | .fd _ _, h, _ => by simp [MV.sok] at h
  | .fs _, h, _ => by simp [MV.sok] at h
  | .fi _ _, h, _ => by simp [MV.sok] at h
  | .ex _ _, h, _ => by simp [MV.sok] at h
  | .ref _, h, _ => by simp [MV.sok] at h
theorem shownAll_le : ∀ xs : List MV, sokAll xs = true → shbAll xs = true → piled (PyData.shownAll (datAll xs)) ≤ szAll xs
  | [], _, _ => by simp [datAll, PyData.shownAll, piled]
  | x :: xs, hs, h => by
    simp only [sokAll, Bool.and_eq_true] at hs
    simp only [shbAll, Bool.and_eq_true] at h
    have a := shown_le x hs.1 h.1
    have b := shownAll_le xs hs.2 h.2
    have ep : piled (PyData.shownAll (datAll (x :: xs))) = x.dat.shown.length + 2 + piled (PyData.shownAll (datAll xs)) := by simp [datAll, PyData.shownAll, piled]
    simp only [szAll]
    omega
end
mutual
theorem showable_of : ∀ v : MV, v.sok = true → v.shb = true → v.dat.showable = true ∧ v.dat.hasDict = false ∧ v.dat.depth ≤ v.dep
  | .non, _, _ => ⟨rfl, rfl, Nat.le_refl _⟩
  | .bl b, _, _ => ⟨rfl, rfl, Nat.le_refl _⟩
  | .int i, _, h => ⟨by simpa [MV.dat, PyData.showable, MV.shb] using h, rfl, Nat.le_refl _⟩
  | .str x, _, _ => ⟨rfl, rfl, Nat.le_refl _⟩
  | .tup xs, hs, h => by
    have q := showableAll_of xs (by simpa [MV.sok] using hs) (by simpa [MV.shb] using h)
    exact ⟨by simpa [MV.dat, PyData.showable] using q.1, by simpa [MV.dat, PyData.hasDict] using q.2.1, by simp only [MV.dat, PyData.depth, MV.dep]; omega⟩
  | .fl xs, hs, h => by
    have q := showableAll_of xs (by simpa [MV.sok] using hs) (by simpa [MV.shb] using h)
    exact ⟨by simpa [MV.dat, PyData.showable] using q.1, by simpa [MV.dat, PyData.hasDict] using q.2.1, by simp only [MV.dat, PyData.depth, MV.dep]; omega⟩
  | .sc xs, hs, h => by
    have q := showableAll_of xs (by simpa [MV.sok] using hs) (by simpa [MV.shb] using h)
    exact ⟨by simpa [MV.dat, PyData.showable] using q.1, by simpa [MV.dat, PyData.hasDict] using q.2.1, by simp only [MV.dat, PyData.depth, MV.dep]; omega⟩
  | .fd _ _, h, _ => by simp [MV.sok] at h
  | .fs _, h, _ => by simp [MV.sok] at h
  | .fi _ _, h, _ => by simp [MV.sok] at h
  | .ex _ _, h, _ => by simp [MV.sok] at h
  | .ref _, h, _ => by simp [MV.sok] at h
theorem showableAll_of : ∀ xs : List MV, sokAll xs = true → shbAll xs = true → PyData.showableAll (datAll xs) = true ∧ PyData.hasDictAll (datAll xs) = false ∧ PyData.depthAll (datAll xs) ≤ depAll xs
  | [], _, _ => ⟨rfl, rfl, Nat.le_refl _⟩
  | x :: xs, hs, h => by
    simp only [sokAll, Bool.and_eq_true] at hs
    simp only [shbAll, Bool.and_eq_true] at h
    obtain ⟨a1, a2, a3⟩ := showable_of x hs.1 h.1
    obtain ⟨b1, b2, b3⟩ := showableAll_of xs hs.2 h.2
    exact ⟨by simp only [datAll, PyData.showableAll, a1, b1, Bool.and_self], by simp only [datAll, PyData.hasDictAll, a2, b2, Bool.or_self], by simp only [datAll, PyData.depthAll, depAll]; omega⟩
end
theorem rok_of {v : MV} (hs : v.sok = true) (hb : v.shb = true) (hd : v.dep ≤ 50) (hz : v.sz ≤ 16777216) : ROk v.dat := by
  obtain ⟨a, b, c⟩ := showable_of v hs hb
  exact ⟨a, b, by omega, by have := shown_le v hs hb; rw [sizeLine_eq]; omega⟩
/-- isinstance by the type's name -/
theorem kit_ii : kitB "int" "int" = some true := by decide +kernel
theorem kit_bi : kitB "bool" "int" = some true := by decide +kernel
theorem kit_ni : kitB "NoneType" "int" = some false := by decide +kernel
theorem kit_si : kitB "str" "int" = some false := by decide +kernel
theorem kit_ti : kitB "tuple" "int" = some false := by decide +kernel
theorem kit_li : kitB "list" "int" = some false := by decide +kernel
theorem kit_ib : kitB "int" "bool" = some false := by decide +kernel
theorem kit_bb : kitB "bool" "bool" = some true := by decide +kernel
theorem kit_tt : kitB "tuple" "tuple" = some true := by decide +kernel
theorem kit_it : kitB "int" "tuple" = some false := by decide +kernel
theorem kit_bt : kitB "bool" "tuple" = some false := by decide +kernel
theorem kit_nt : kitB "NoneType" "tuple" = some false := by decide +kernel
theorem kit_st : kitB "str" "tuple" = some false := by decide +kernel
theorem kit_lt : kitB "list" "tuple" = some false := by decide +kernel
theorem eqM_int {i j : Int} {h : MHp} {Q : MQ} : eqM (.int i) (.int j) h Q ↔ Q (.bl (i == j)) h := by
  unfold eqM
  simp [der, MV.ok, MV.sok, MV.dep, MV.eqv]
theorem neM_int {i j : Int} {h : MHp} {Q : MQ} : neM (.int i) (.int j) h Q ↔ Q (.bl (!(i == j))) h := by
  unfold neM
  simp [der, MV.ok, MV.sok, MV.dep, MV.eqv]
theorem len2 {α : Type} : ∀ {xs : List α}, xs.length = 2 → ∃ a b, xs = [a, b]
  | [a, b], _ => ⟨a, b, rfl⟩
theorem len3 {α : Type} : ∀ {xs : List α}, xs.length = 3 → ∃ a b c, xs = [a, b, c]
  | [a, b, c], _ => ⟨a, b, c, rfl⟩
theorem eq_of_sorted {α : Type} {le : α → α → Prop} (anti : ∀ a b, le a b → le b a → a = b) : ∀ {l m : List α}, l.Perm m → l.Pairwise le → m.Pairwise le → l = m
  | [], m, p, _, _ => by simpa using p
  | a :: l, [], p, _, _ => by simp at p
  | a :: l, b :: m, p, hl, hm => by
    rw [List.pairwise_cons] at hl hm
    have e : a = b := by
      have h1 : a ∈ b :: m := p.mem_iff.mp List.mem_cons_self
      have h2 : b ∈ a :: l := p.mem_iff.mpr List.mem_cons_self
      rcases List.mem_cons.mp h1 with e | h1
      · exact e
      · rcases List.mem_cons.mp h2 with e | h2
        · exact e.symm
        · exact anti a b (hl.1 b h2) (hm.1 a h1)
    subst e
    rw [eq_of_sorted anti (List.Perm.cons_inv p) hl.2 hm.2]
theorem getK {h : MHp} {c : Cell} : (h ++ [c])[h.length]? = some c := by simp
theorem setK {h : MHp} {c d : Cell} : (h ++ [c]).set h.length d = h ++ [d] := by simp
end Mini
namespace Lw
open PySem PySem.Spec PyProof.Rows L2 Mini

def b__law_open : MS :=
    (mSeq (mAsg (mB listMC (aCons (mSl slM (mVar 0) pNo (pAt (mInt 12))) aNil)) (gN 1))
    (mSeq (mFor (iEnum (aCons (mSl slM (mVar 0) (pAt (mInt 12)) (pAt (mInt 63))) aNil)) (gT (gsCons (gN 2) (gsCons (gN 3) gsNil)) 2) (mAsg (mOp2 plusM (mOp2 ixM (mVar 1) (mOp2 modM (mB intM (aCons (mVar 2) aNil)) (mInt 12))) (mVar 3)) (gIx (mVar 1) (mOp2 modM (mB intM (aCons (mVar 2) aNil)) (mInt 12)))))
    (mRet (mLstC (aCons (mVar 1) (aCons (mInt 0) (aCons (mInt 0) aNil)))))))
def f__law_open : Sem := mFn mdK mdK 1 4 b__law_open
def b__law_spread : MS :=
    (mSeq (mIf (tV (mOp2 geM (mVar 0) (mOp2 powM (mInt 10) (mInt 18)))) (mRet (mVar 0)) mNext)
    (mSeq (mAsg (mLst (aCons (mInt 2147483629) (aCons (mInt 2147483587) (aCons (mInt 2147483579) (aCons (mInt 2147483563) (aCons (mInt 2147483549) (aCons (mInt 2147483543) (aCons (mInt 2147483497) aNil)))))))) (gN 2))
    (mSeq (mAsg (mOp2 plusM (mVar 2) (mLst (aCons (mInt 2147483489) (aCons (mInt 2147483477) (aCons (mInt 2147483423) (aCons (mInt 2147483399) (aCons (mInt 2147483353) (aCons (mInt 2147483323) aNil)))))))) (gN 2))
    (mSeq (mAsg (mOp2 plusM (mOp2 plusM (mOp2 mulM2 (mOp2 modM (mB intM (aCons (mVar 0) aNil)) (mInt 1000000007)) (mOp2 plusM (mOp2 mulM2 (mInt 2) (mVar 1)) (mInt 69069))) (mOp2 mulM2 (mVar 1) (mInt 40503))) (mInt 977)) (gN 3))
    (mSeq (mAsg (mOp2 modM (mB intM (aCons (mOp2 powM (mVar 3) (mInt 3)) aNil)) (mOp2 ixM (mVar 2) (mOp2 modM (mB intM (aCons (mVar 1) aNil)) (mInt 13)))) (gN 4))
    (mSeq (mAsg (mOp2 plusM (mOp2 modM (mB intM (aCons (mVar 0) aNil)) (mInt 65537)) (mInt 5)) (gN 5))
    (mSeq (mAsg (mOp2 modM (mB intM (aCons (mOp2 powM (mOp2 plusM (mOp2 mulM2 (mVar 4) (mOp2 plusM (mVar 1) (mInt 3))) (mVar 5)) (mInt 5)) aNil)) (mOp2 ixM (mVar 2) (mOp2 modM (mB intM (aCons (mOp2 plusM (mVar 1) (mInt 5)) aNil)) (mInt 13)))) (gN 6))
    (mSeq (mAsg (mOp2 modM (mB intM (aCons (mOp2 powM (mOp2 plusM (mOp2 plusM (mVar 6) (mOp2 modM (mB intM (aCons (mVar 4) aNil)) (mInt 1009))) (mVar 1)) (mInt 3)) aNil)) (mOp2 ixM (mVar 2) (mOp2 modM (mB intM (aCons (mOp2 plusM (mVar 1) (mInt 7)) aNil)) (mInt 13)))) (gN 7))
    (mRet (mOp2 plusM (mOp2 mulM2 (mOp2 plusM (mOp2 mulM2 (mVar 4) (mInt 2147483647)) (mVar 6)) (mInt 2147483647)) (mVar 7)))))))))))
def f__law_spread : Sem := mFn mdF mdD 2 8 b__law_spread
def b__law_take : MS :=
    (mSeq (mIf (tV (mOp2 ltM (mOp2 ixM (mVar 0) (mInt 2)) (mVar 1))) (mSeq (mAsg (mOp2 ixM (mVar 0) (mInt 1)) (gN 3))
    (mSeq (mAsg (mInt 0) (gN 4))
    (mSeq (mIf (tV (mOp2 ltM (mVar 3) (mB lenM (aCons (mOp2 ixM (mVar 0) (mInt 0)) aNil)))) (mAsg (mOp2 ixM (mOp2 ixM (mVar 0) (mInt 0)) (mVar 3)) (gN 4)) (mIf (tV (mOp2 gtM (mB lenM (aCons (mOp2 ixM (mVar 0) (mInt 0)) aNil)) (mInt 0))) (mAsg (mOp2 modM (mB intM (aCons (mOp2 ixM (mOp2 ixM (mVar 0) (mInt 0)) (mOp2 modM (mB intM (aCons (mOp2 plusM (mOp2 mulM2 (mVar 3) (mInt 5)) (mInt 3)) aNil)) (mB lenM (aCons (mOp2 ixM (mVar 0) (mInt 0)) aNil)))) aNil)) (mOp2 plusM (mOp2 powM (mInt 10) (mInt 17)) (mVar 3))) (gN 4)) mNext))
    (mSeq (mAsg (mOp2 plusM (mVar 3) (mInt 1)) (gIx (mVar 0) (mInt 1)))
    (mAsg (mCall f__law_spread (aCons (mVar 4) (aCons (mVar 3) aNil))) (gIx (mVar 0) (mInt 2))))))) mNext)
    (mSeq (mAsg (mOp2 modM (mB intM (aCons (mOp2 ixM (mVar 0) (mInt 2)) aNil)) (mVar 1)) (gN 2))
    (mSeq (mAsg (mOp2 fdivM (mOp2 ixM (mVar 0) (mInt 2)) (mVar 1)) (gIx (mVar 0) (mInt 2)))
    (mRet (mVar 2)))))
def f__law_take : Sem := mFn mdF mdD 2 5 b__law_take
def b__law_one : MS :=
    (mRet (mOp2 ixM (mVar 1) (mCall f__law_take (aCons (mVar 0) (aCons (mB lenM (aCons (mVar 1) aNil)) aNil)))))
def f__law_one : Sem := mFn mdF mdD 2 2 b__law_one
def b__law_all_members : MS :=
    (mSeq (mAsg (mLstC aNil) (gN 1))
    (mSeq (mFor (iEnum (aCons (mVar 0) aNil)) (gT (gsCons (gN 2) (gsCons (gN 3) gsNil)) 2) (mDrop (mMt extendM (mVar 1) (aCons (mLc (iRng1 (aCons (mVar 3) aNil)) (gN 4) tAll (mTup (aCons (mVar 2) (aCons (mVar 4) aNil))) [4]) aNil))))
    (mRet (mVar 1))))
def f__law_all_members : Sem := mFn mdF mdD 1 5 b__law_all_members
def b__law_drawn_wait : MS :=
    (mSeq (mAsg (mCall f__law_all_members (aCons (mVar 1) aNil)) (gN 2))
    (mSeq (mAsg (mCall f__law_one (aCons (mVar 0) (aCons (mVar 2) aNil))) (gN 3))
    (mSeq (mAsg (mLc (iSeq (mVar 2)) (gN 6) (tV (mOp2 neM (mOp2 ixM (mVar 6) (mInt 0)) (mOp2 ixM (mVar 3) (mInt 0)))) (mVar 6) [6]) (gN 4))
    (mSeq (mIf (tV (mOp2 eqM (mVar 4) (mLst aNil))) (mRet mNon) mNext)
    (mSeq (mAsg (mCall f__law_one (aCons (mVar 0) (aCons (mVar 4) aNil))) (gN 5))
    (mRet (mTup (aCons (mVar 3) (aCons (mVar 5) (aCons (mCall f__law_one (aCons (mVar 0) (aCons (mLst (aCons (mInt 0) (aCons (mInt 0) (aCons (mInt 1) (aCons (mInt 1) (aCons (mInt 2) (aCons (mInt 3) aNil))))))) aNil))) aNil))))))))))
def f__law_drawn_wait : Sem := mFn mdF mdD 2 7 b__law_drawn_wait
def b__law_all_ties : MS :=
    (mSeq (mAsg (mB listMC (aCons (mOp2 ixM (mVar 0) (mInt 1)) aNil)) (gN 1))
    (mSeq (mFor (iEnum (aCons (mOp2 ixM (mVar 0) (mInt 0)) aNil)) (gT (gsCons (gN 2) (gsCons (gN 3) gsNil)) 2) (mSeq (mDrop (mMt extendM (mVar 1) (aCons (mLc (iRng1 (aCons (mOp2 subM (mVar 3) (mInt 1)) aNil)) (gN 4) tAll (mTup (aCons (mTup (aCons (mVar 2) (aCons (mVar 4) aNil))) (aCons (mTup (aCons (mVar 2) (aCons (mOp2 plusM (mVar 4) (mInt 1)) aNil))) (aCons (mInt 0) aNil)))) [4]) aNil)))
    (mDrop (mMt appendM (mVar 1) (aCons (mTup (aCons (mTup (aCons (mVar 2) (aCons (mOp2 subM (mVar 3) (mInt 1)) aNil))) (aCons (mTup (aCons (mVar 2) (aCons (mInt 0) aNil))) (aCons (mInt 1) aNil)))) aNil)))))
    (mRet (mB sortM (aCons (mVar 1) aNil)))))
def f__law_all_ties : Sem := mFn mdF mdD 1 5 b__law_all_ties
def b__law_leads_plainly : MS :=
    (mSeq (mAsg (mTup (aCons (mLst (aCons (mVar 1) aNil)) (aCons (mInt 0) aNil))) (gT (gsCons (gN 4) (gsCons (gN 5) gsNil)) 2))
    (mSeq (mAsg (mLc (iSeq (mCall f__law_all_ties (aCons (mVar 0) aNil))) (gN 7) (tV (mOp2 eqM (mOp2 ixM (mVar 7) (mInt 2)) (mInt 0))) (mVar 7) [7]) (gN 3))
    (mSeq (mWhile (tV (mOp2 ltM (mVar 5) (mB lenM (aCons (mVar 4) aNil)))) (mSeq (mAsg (mLc (iSeq (mVar 3)) (gN 7) (tV (mOp2 eqM (mOp2 ixM (mVar 7) (mInt 0)) (mOp2 ixM (mVar 4) (mVar 5)))) (mOp2 ixM (mVar 7) (mInt 1)) [7]) (gN 6))
    (mSeq (mAsg (mOp2 plusM (mVar 4) (mLc (iSeq (mVar 6)) (gN 8) (tV (mOp2 notInSeqM (mVar 8) (mVar 4))) (mVar 8) [8])) (gN 4))
    (mAsg (mOp2 plusM (mVar 5) (mInt 1)) (gN 5)))))
    (mRet (mOp2 inSeqM (mVar 2) (mVar 4))))))
def f__law_leads_plainly : Sem := mFn mdF mdD 3 9 b__law_leads_plainly
def b__law_drawn_plan : MS :=
    (mSeq (mAsg (mCall f__law_one (aCons (mVar 0) (aCons (mLst (aCons (mInt 1) (aCons (mInt 2) (aCons (mInt 2) (aCons (mInt 3) (aCons (mInt 3) (aCons (mInt 4) aNil))))))) aNil))) (gN 2))
    (mSeq (mAsg (mB tupleM (aCons (mLc (iRng1 (aCons (mVar 2) aNil)) (gN 7) tAll (mCall f__law_one (aCons (mVar 0) (aCons (mLst (aCons (mInt 1) (aCons (mInt 1) (aCons (mInt 2) (aCons (mInt 2) (aCons (mInt 3) (aCons (mInt 4) aNil))))))) aNil))) [7]) aNil)) (gN 3))
    (mSeq (mAsg (mLstC aNil) (gN 4))
    (mSeq (mFor (iRng1 (aCons (mCall f__law_take (aCons (mVar 0) (aCons (mOp2 plusM (mVar 1) (mInt 1)) aNil))) aNil)) (gN 5) (mSeq (mAsg (mCall f__law_drawn_wait (aCons (mVar 0) (aCons (mVar 3) aNil))) (gN 6))
    (mIf (tV (mOp2 isNotM (mVar 6) mNon)) (mSeq (mIf (tAn (tV (mOp2 eqM (mOp2 ixM (mVar 6) (mInt 2)) (mInt 0))) (tV (mCall f__law_leads_plainly (aCons (mTup (aCons (mVar 3) (aCons (mB tupleM (aCons (mVar 4) aNil)) aNil))) (aCons (mOp2 ixM (mVar 6) (mInt 1)) (aCons (mOp2 ixM (mVar 6) (mInt 0)) aNil)))))) (mAsg (mTup (aCons (mOp2 ixM (mVar 6) (mInt 0)) (aCons (mOp2 ixM (mVar 6) (mInt 1)) (aCons (mOp2 plusM (mInt 1) (mCall f__law_take (aCons (mVar 0) (aCons (mInt 3) aNil)))) aNil)))) (gN 6)) mNext)
    (mIf (tV (mOp2 notInSeqM (mVar 6) (mVar 4))) (mDrop (mMt appendM (mVar 4) (aCons (mVar 6) aNil))) mNext)) mNext)))
    (mRet (mTup (aCons (mVar 3) (aCons (mB tupleM (aCons (mB sortM (aCons (mVar 4) aNil)) aNil)) aNil))))))))
def f__law_drawn_plan : Sem := mFn mdF mdD 2 8 b__law_drawn_plan
def b__law_anew : MS :=
    (mSeq (mAsg (mInt 0) (gIx (mVar 0) (mInt 2)))
    (mRet (mVar 0)))
def f__law_anew : Sem := mFn mdF mdD 1 1 b__law_anew
def b__law_bent (r : Sem) : MS :=
    (mSeq (mIf (tOr (tNo (tV (mIsi "tuple" (mVar 1)))) (tOr (tV (mOp2 eqM (mVar 1) (mTup aNil))) (tV (mOp2 eqM (mCall f__law_take (aCons (mVar 0) (aCons (mInt 7) aNil))) (mInt 0))))) (mRet (mCall f__law_one (aCons (mVar 0) (aCons (mLst (aCons mNon (aCons (mInt 0) (aCons (mInt 1) (aCons (mInt 2) (aCons (mInt 4) (aCons (mInt 5) (aCons (mOp1 negM (mInt 1)) (aCons (mBl true) (aCons (mBl false) (aCons (mStr "") (aCons (mStr "a") (aCons (mTup aNil) (aCons (mLst aNil) (aCons (mTup (aCons (mInt 0) (aCons (mInt 0) aNil))) (aCons (mTup (aCons (mInt 1) (aCons (mInt 0) aNil))) (aCons (mTup (aCons (mTup (aCons (mInt 0) (aCons (mInt 0) aNil))) aNil)) aNil))))))))))))))))) aNil)))) mNext)
    (mSeq (mPar 2 3 (aCons (mCall f__law_take (aCons (mVar 0) (aCons (mB lenM (aCons (mVar 1) aNil)) aNil))) (aCons (mCall f__law_take (aCons (mVar 0) (aCons (mInt 8) aNil))) aNil)))
    (mSeq (mIf (tV (mOp2 eqM (mVar 3) (mInt 0))) (mRet (mOp2 plusM (mSl slM (mVar 1) pNo (pAt (mVar 2))) (mSl slM (mVar 1) (pAt (mOp2 plusM (mVar 2) (mInt 1))) pNo))) mNext)
    (mSeq (mIf (tV (mOp2 eqM (mVar 3) (mInt 1))) (mRet (mOp2 plusM (mVar 1) (mSl slM (mVar 1) (pAt (mVar 2)) (pAt (mOp2 plusM (mVar 2) (mInt 1)))))) mNext)
    (mSeq (mIf (tV (mOp2 eqM (mVar 3) (mInt 2))) (mRet (mCall f__law_one (aCons (mVar 0) (aCons (mLst (aCons (mB listM (aCons (mVar 1) aNil)) (aCons (mOp1 revM (mVar 1)) aNil))) aNil)))) mNext)
    (mRet (mOp2 plusM (mOp2 plusM (mSl slM (mVar 1) pNo (pAt (mVar 2))) (mTup (aCons (mCall r (aCons (mVar 0) (aCons (mOp2 ixM (mVar 1) (mVar 2)) aNil))) aNil))) (mSl slM (mVar 1) (pAt (mOp2 plusM (mVar 2) (mInt 1))) pNo))))))))
def f__law_bent : Nat → Sem
  | 0 => fun _ _ _ _ => False
  | k + 1 => mFn mdF mdD 2 4 (b__law_bent (f__law_bent k))
def b__law_is_whole : MS :=
    (mRet (mAnd (mIsi "int" (mVar 0)) (mAnd (mNot (mIsi "bool" (mVar 0))) (mChain leM leM (mVar 1) (mVar 0) (mVar 2)))))
def f__law_is_whole : Sem := mFn mdF mdD 3 3 b__law_is_whole
def b__law_is_member : MS :=
    (mSeq (mIf (tOr (tNo (tV (mIsi "tuple" (mVar 1)))) (tOr (tV (mOp2 neM (mB lenM (aCons (mVar 1) aNil)) (mInt 2))) (tNo (tV (mCall f__law_is_whole (aCons (mOp2 ixM (mVar 1) (mInt 0)) (aCons (mInt 0) (aCons (mOp2 subM (mB lenM (aCons (mVar 0) aNil)) (mInt 1)) aNil)))))))) (mRet (mBl false)) mNext)
    (mRet (mCall f__law_is_whole (aCons (mOp2 ixM (mVar 1) (mInt 1)) (aCons (mInt 0) (aCons (mOp2 subM (mOp2 ixM (mVar 0) (mOp2 ixM (mVar 1) (mInt 0))) (mInt 1)) aNil))))))
def f__law_is_member : Sem := mFn mdF mdD 2 2 b__law_is_member
def b__law_is_plan : MS :=
    (mSeq (mIf (tOr (tNo (tV (mIsi "tuple" (mVar 0)))) (tOr (tV (mOp2 neM (mB lenM (aCons (mVar 0) aNil)) (mInt 2))) (tNo (tV (mIsi "tuple" (mOp2 ixM (mVar 0) (mInt 0))))))) (mRet (mBl false)) mNext)
    (mSeq (mAsg (mVar 0) (gT (gsCons (gN 2) (gsCons (gN 3) gsNil)) 2))
    (mSeq (mIf (tOr (tNo (tV (mChain leM leM (mInt 1) (mB lenM (aCons (mVar 2) aNil)) (mInt 4)))) (tV (mOp2 inSeqM (mBl false) (mLc (iSeq (mVar 2)) (gN 4) tAll (mCall f__law_is_whole (aCons (mVar 4) (aCons (mInt 1) (aCons (mInt 4) aNil)))) [4])))) (mRet (mBl false)) mNext)
    (mSeq (mIf (tOr (tNo (tV (mIsi "tuple" (mVar 3)))) (tV (mOp2 gtM (mB lenM (aCons (mVar 3) aNil)) (mInt 12)))) (mRet (mBl false)) mNext)
    (mSeq (mFor (iSeq (mVar 3)) (gN 1) (mSeq (mIf (tOr (tNo (tV (mIsi "tuple" (mVar 1)))) (tOr (tV (mOp2 neM (mB lenM (aCons (mVar 1) aNil)) (mInt 3))) (tNo (tV (mCall f__law_is_whole (aCons (mOp2 ixM (mVar 1) (mInt 2)) (aCons (mInt 0) (aCons (mInt 3) aNil)))))))) (mRet (mBl false)) mNext)
    (mIf (tOr (tNo (tV (mCall f__law_is_member (aCons (mVar 2) (aCons (mOp2 ixM (mVar 1) (mInt 0)) aNil))))) (tOr (tNo (tV (mCall f__law_is_member (aCons (mVar 2) (aCons (mOp2 ixM (mVar 1) (mInt 1)) aNil))))) (tV (mOp2 eqM (mOp2 ixM (mOp2 ixM (mVar 1) (mInt 0)) (mInt 0)) (mOp2 ixM (mOp2 ixM (mVar 1) (mInt 1)) (mInt 0)))))) (mRet (mBl false)) mNext)))
    (mRet (mOp2 eqM (mB sortSetM (aCons (mB setM (aCons (mVar 3) aNil)) aNil)) (mB listM (aCons (mVar 3) aNil)))))))))
def f__law_is_plan : Sem := mFn mdF mdD 1 5 b__law_is_plan
def b_is_ascending : MS :=
    (mRet (mOp2 eqM (mB listM (aCons (mVar 0) aNil)) (mB sortSetM (aCons (mB setM (aCons (mVar 0) aNil)) aNil))))
def f_is_ascending : Sem := mFn mdF mdD 1 1 b_is_ascending
def b_is_integer : MS :=
    (mRet (mAnd (mIsi "int" (mVar 0)) (mNot (mIsi "bool" (mVar 0)))))
def f_is_integer : Sem := mFn mdF mdD 1 1 b_is_integer
def b_is_between : MS :=
    (mRet (mAnd (mCall f_is_integer (aCons (mVar 0) aNil)) (mChain leM leM (mVar 1) (mVar 0) (mVar 2))))
def f_is_between : Sem := mFn mdF mdD 3 3 b_is_between
def b_are_endless_sizes : MS :=
    (mSeq (mIf (tOr (tNo (tV (mIsi "tuple" (mVar 0)))) (tNo (tV (mChain leM leM (mInt 1) (mB lenM (aCons (mVar 0) aNil)) (mInt 4))))) (mRet (mBl false)) mNext)
    (mRet (mB allM (aCons (mLc (iSeq (mVar 0)) (gN 1) tAll (mCall f_is_between (aCons (mVar 1) (aCons (mInt 1) (aCons (mInt 4) aNil)))) [1]) aNil))))
def f_are_endless_sizes : Sem := mFn mdF mdD 1 2 b_are_endless_sizes
def b_is_job_in : MS :=
    (mSeq (mIf (tOr (tNo (tV (mIsi "tuple" (mVar 1)))) (tOr (tV (mOp2 neM (mB lenM (aCons (mVar 1) aNil)) (mInt 2))) (tNo (tV (mCall f_is_between (aCons (mOp2 ixM (mVar 1) (mInt 0)) (aCons (mInt 0) (aCons (mOp2 subM (mB lenM (aCons (mVar 0) aNil)) (mInt 1)) aNil)))))))) (mRet (mBl false)) mNext)
    (mRet (mCall f_is_between (aCons (mOp2 ixM (mVar 1) (mInt 1)) (aCons (mInt 0) (aCons (mOp2 subM (mOp2 ixM (mVar 0) (mOp2 ixM (mVar 1) (mInt 0))) (mInt 1)) aNil))))))
def f_is_job_in : Sem := mFn mdF mdD 2 2 b_is_job_in
def b_is_linked_wait : MS :=
    (mSeq (mIf (tOr (tNo (tV (mIsi "tuple" (mVar 1)))) (tOr (tV (mOp2 neM (mB lenM (aCons (mVar 1) aNil)) (mInt 3))) (tNo (tV (mCall f_is_job_in (aCons (mVar 0) (aCons (mOp2 ixM (mVar 1) (mInt 0)) aNil))))))) (mRet (mBl false)) mNext)
    (mSeq (mIf (tOr (tNo (tV (mCall f_is_job_in (aCons (mVar 0) (aCons (mOp2 ixM (mVar 1) (mInt 1)) aNil))))) (tV (mOp2 eqM (mOp2 ixM (mOp2 ixM (mVar 1) (mInt 0)) (mInt 0)) (mOp2 ixM (mOp2 ixM (mVar 1) (mInt 1)) (mInt 0))))) (mRet (mBl false)) mNext)
    (mRet (mCall f_is_between (aCons (mOp2 ixM (mVar 1) (mInt 2)) (aCons (mInt 0) (aCons (mInt 3) aNil)))))))
def f_is_linked_wait : Sem := mFn mdF mdD 2 2 b_is_linked_wait
def b_is_endless_plan : MS :=
    (mSeq (mIf (tOr (tNo (tV (mIsi "tuple" (mVar 0)))) (tOr (tV (mOp2 neM (mB lenM (aCons (mVar 0) aNil)) (mInt 2))) (tNo (tV (mCall f_are_endless_sizes (aCons (mOp2 ixM (mVar 0) (mInt 0)) aNil)))))) (mRet (mBl false)) mNext)
    (mSeq (mIf (tOr (tNo (tV (mIsi "tuple" (mOp2 ixM (mVar 0) (mInt 1))))) (tV (mOp2 gtM (mB lenM (aCons (mOp2 ixM (mVar 0) (mInt 1)) aNil)) (mInt 12)))) (mRet (mBl false)) mNext)
    (mRet (mAnd (mB allM (aCons (mLc (iSeq (mOp2 ixM (mVar 0) (mInt 1))) (gN 1) tAll (mCall f_is_linked_wait (aCons (mOp2 ixM (mVar 0) (mInt 0)) (aCons (mVar 1) aNil))) [1]) aNil)) (mCall f_is_ascending (aCons (mOp2 ixM (mVar 0) (mInt 1)) aNil))))))
def f_is_endless_plan : Sem := mFn mdF mdD 1 2 b_is_endless_plan
def b_require_endless : MS :=
    (mIf (tNo (tV (mCall f_is_endless_plan (aCons (mVar 0) aNil)))) mNo mNext)
def f_require_endless : Sem := mFn mdF mdD 1 1 b_require_endless
def b_find_links : MS :=
    (mSeq (mAsg (mB listMC (aCons (mOp2 ixM (mVar 0) (mInt 1)) aNil)) (gN 1))
    (mSeq (mFor (iEnum (aCons (mOp2 ixM (mVar 0) (mInt 0)) aNil)) (gT (gsCons (gN 2) (gsCons (gN 3) gsNil)) 2) (mSeq (mDrop (mMt extendM (mVar 1) (aCons (mLc (iRng1 (aCons (mOp2 subM (mVar 3) (mInt 1)) aNil)) (gN 4) tAll (mTup (aCons (mTup (aCons (mVar 2) (aCons (mVar 4) aNil))) (aCons (mTup (aCons (mVar 2) (aCons (mOp2 plusM (mVar 4) (mInt 1)) aNil))) (aCons (mInt 0) aNil)))) [4]) aNil)))
    (mDrop (mMt appendM (mVar 1) (aCons (mTup (aCons (mTup (aCons (mVar 2) (aCons (mOp2 subM (mVar 3) (mInt 1)) aNil))) (aCons (mTup (aCons (mVar 2) (aCons (mInt 0) aNil))) (aCons (mInt 1) aNil)))) aNil)))))
    (mRet (mB sortMC (aCons (mVar 1) aNil)))))
def f_find_links : Sem := mFn mdC mdD 1 5 b_find_links
def b_links_of : MS :=
    (mSeq (mDrop (mCall f_require_endless (aCons (mVar 0) aNil)))
    (mRet (mCall f_find_links (aCons (mVar 0) aNil))))
def f_links_of : Sem := mFn mdC mdD 1 1 b_links_of
def b_is_endless : MS :=
    (mRet (mCall f_is_endless_plan (aCons (mVar 0) aNil)))
def f_is_endless : Sem := mFn mdF mdD 1 1 b_is_endless
def b_law : MS :=
    (mSeq (mAsg (mCall f__law_open (aCons (mVar 0) aNil)) (gN 1))
    (mSeq (mFor (iRng1 (aCons (mInt 2) aNil)) (gN 2) (mSeq (mAsg (mOp2 ixM (mCall f__law_drawn_plan (aCons (mCall f__law_anew (aCons (mVar 1) aNil)) (aCons (mInt 0) aNil))) (mInt 0)) (gN 3))
    (mSeq (mAsg (mLc (iRng1 (aCons (mCall f__law_take (aCons (mVar 1) (aCons (mInt 14) aNil))) aNil)) (gN 10) tAll (mCall f__law_drawn_wait (aCons (mCall f__law_anew (aCons (mVar 1) aNil)) (aCons (mVar 3) aNil))) [10]) (gN 4))
    (mSeq (mAsg (mTup (aCons (mVar 3) (aCons (mB tupleM (aCons (mSl slM (mB sortSetM (aCons (mB setM (aCons (mLc (iSeq (mVar 4)) (gN 15) (tV (mOp2 isNotM (mVar 15) mNon)) (mVar 15) [15]) aNil)) aNil)) pNo (pAt (mInt 12))) aNil)) aNil))) (gN 5))
    (mSeq (mAsg (mTup aNil) (gN 6))
    (mSeq (mFor (iRng1 (aCons (mInt 4) aNil)) (gN 7) (mAsg (mOp2 plusM (mVar 6) (mB tupleM (aCons (mLc (iRng1 (aCons (mInt 4) aNil)) (gN 14) tAll (mTup (aCons (mTup (aCons (mInt 0) (aCons (mVar 7) aNil))) (aCons (mTup (aCons (mInt 1) (aCons (mVar 7) aNil))) (aCons (mVar 14) aNil)))) [14]) aNil))) (gN 6)))
    (mSeq (mAsg (mLst (aCons (mVar 5) (aCons (mTup (aCons (mOp2 ixM (mVar 5) (mInt 0)) (aCons (mOp2 mulM2 (mSl slM (mOp2 ixM (mVar 5) (mInt 1)) pNo (pAt (mInt 1))) (mInt 2)) aNil))) (aCons (mTup (aCons (mTup (aCons (mInt 4) (aCons (mInt 4) aNil))) (aCons (mSl slM (mVar 6) pNo (pAt (mInt 12))) aNil))) (aCons (mTup (aCons (mTup (aCons (mInt 4) (aCons (mInt 4) aNil))) (aCons (mSl slM (mVar 6) pNo (pAt (mInt 13))) aNil))) (aCons (mTup (aCons (mOp2 mulM2 (mTup (aCons (mInt 4) aNil)) (mInt 4)) (aCons (mTup aNil) aNil))) (aCons (mTup (aCons (mTup (aCons (mInt 5) aNil)) (aCons (mTup aNil) aNil))) aNil))))))) (gN 8))
    (mSeq (mAsg (mOp2 plusM (mVar 8) (mLst (aCons (mTup (aCons (mOp2 mulM2 (mTup (aCons (mInt 1) aNil)) (mInt 5)) (aCons (mTup aNil) aNil))) (aCons (mTup (aCons (mTup aNil) (aCons (mTup aNil) aNil))) (aCons (mTup (aCons (mTup (aCons (mInt 0) aNil)) (aCons (mTup aNil) aNil))) (aCons (mTup (aCons (mTup (aCons (mInt 1) aNil)) (aCons (mTup aNil) aNil))) (aCons (mTup (aCons (mTup (aCons (mInt 1) (aCons (mInt 1) aNil))) (aCons (mTup (aCons (mTup (aCons (mTup (aCons (mInt 0) (aCons (mInt 0) aNil))) (aCons (mTup (aCons (mInt 1) (aCons (mInt 0) aNil))) (aCons (mInt 4) aNil)))) aNil)) aNil))) aNil))))))) (gN 8))
    (mSeq (mAsg (mOp2 plusM (mVar 8) (mLc (iRng1 (aCons (mInt 10) aNil)) (gN 10) tAll (mCall (f__law_bent 6) (aCons (mCall f__law_anew (aCons (mVar 1) aNil)) (aCons (mVar 5) aNil))) [10])) (gN 8))
    (mFor (iSeq (mVar 8)) (gN 9) (mSeq (mPar 11 12 (aCons (mB reprM2 (aCons (mVar 9) aNil)) (aCons (mCall f__law_is_plan (aCons (mVar 9) aNil)) aNil)))
    (mSeq (mIf (tOr (tV (mOp2 neM (mB reprM2 (aCons (mCall f_is_endless (aCons (mVar 9) aNil)) aNil)) (mB reprM2 (aCons (mVar 12) aNil)))) (tV (mOp2 neM (mB reprM2 (aCons (mVar 9) aNil)) (mVar 11)))) (mRet (mBl false)) mNext)
    (mIf (tV (mVar 12)) (mSeq (mAsg (mCall f_links_of (aCons (mVar 9) aNil)) (gN 13))
    (mSeq (mIf (tV (mOp2 neM (mB reprM2 (aCons (mVar 13) aNil)) (mB reprM2 (aCons (mCall f__law_all_ties (aCons (mVar 9) aNil)) aNil)))) (mRet (mBl false)) mNext)
    (mSeq (mDrop (mMt appendM (mVar 13) (aCons mNon aNil)))
    (mIf (tV (mOp2 neM (mB reprM2 (aCons (mCall f_links_of (aCons (mVar 9) aNil)) aNil)) (mB reprM2 (aCons (mCall f__law_all_ties (aCons (mVar 9) aNil)) aNil)))) (mRet (mBl false)) mNext)))) mNext)))))))))))))
    (mRet (mBl true))))
def f_law : Sem := mFn mdF mdD 1 16 b_law
end Lw
namespace Lw
open PySem PySem.Spec PyProof.Rows L2 Mini

def top (i : Nat) : Stmt := PySem.Challenge.pw_flagplans_k32_endless_plans_and_links.main.body.getD i (.Pass ⟨0, 0, 0, 0⟩)
structure G (K : PySem.W.Frag) (mg : Str → Option Value) where
  a__law_open : Addr
  d__law_open : FuncData
  F__law_open : FnP K "_law_open" (top 23) a__law_open d__law_open
  g__law_open : mg "_law_open" = some (.ref a__law_open)
  a__law_spread : Addr
  d__law_spread : FuncData
  F__law_spread : FnP K "_law_spread" (top 22) a__law_spread d__law_spread
  g__law_spread : mg "_law_spread" = some (.ref a__law_spread)
  a__law_take : Addr
  d__law_take : FuncData
  F__law_take : FnP K "_law_take" (top 24) a__law_take d__law_take
  g__law_take : mg "_law_take" = some (.ref a__law_take)
  a__law_one : Addr
  d__law_one : FuncData
  F__law_one : FnP K "_law_one" (top 26) a__law_one d__law_one
  g__law_one : mg "_law_one" = some (.ref a__law_one)
  a__law_all_members : Addr
  d__law_all_members : FuncData
  F__law_all_members : FnP K "_law_all_members" (top 27) a__law_all_members d__law_all_members
  g__law_all_members : mg "_law_all_members" = some (.ref a__law_all_members)
  a__law_drawn_wait : Addr
  d__law_drawn_wait : FuncData
  F__law_drawn_wait : FnP K "_law_drawn_wait" (top 30) a__law_drawn_wait d__law_drawn_wait
  g__law_drawn_wait : mg "_law_drawn_wait" = some (.ref a__law_drawn_wait)
  a__law_all_ties : Addr
  d__law_all_ties : FuncData
  F__law_all_ties : FnP K "_law_all_ties" (top 28) a__law_all_ties d__law_all_ties
  g__law_all_ties : mg "_law_all_ties" = some (.ref a__law_all_ties)
  a__law_leads_plainly : Addr
  d__law_leads_plainly : FuncData
  F__law_leads_plainly : FnP K "_law_leads_plainly" (top 29) a__law_leads_plainly d__law_leads_plainly
  g__law_leads_plainly : mg "_law_leads_plainly" = some (.ref a__law_leads_plainly)
  a__law_drawn_plan : Addr
  d__law_drawn_plan : FuncData
  F__law_drawn_plan : FnP K "_law_drawn_plan" (top 31) a__law_drawn_plan d__law_drawn_plan
  g__law_drawn_plan : mg "_law_drawn_plan" = some (.ref a__law_drawn_plan)
  a__law_anew : Addr
  d__law_anew : FuncData
  F__law_anew : FnP K "_law_anew" (top 25) a__law_anew d__law_anew
  g__law_anew : mg "_law_anew" = some (.ref a__law_anew)
  a__law_bent : Addr
  d__law_bent : FuncData
  F__law_bent : FnP K "_law_bent" (top 35) a__law_bent d__law_bent
  g__law_bent : mg "_law_bent" = some (.ref a__law_bent)
  a__law_is_whole : Addr
  d__law_is_whole : FuncData
  F__law_is_whole : FnP K "_law_is_whole" (top 32) a__law_is_whole d__law_is_whole
  g__law_is_whole : mg "_law_is_whole" = some (.ref a__law_is_whole)
  a__law_is_member : Addr
  d__law_is_member : FuncData
  F__law_is_member : FnP K "_law_is_member" (top 33) a__law_is_member d__law_is_member
  g__law_is_member : mg "_law_is_member" = some (.ref a__law_is_member)
  a__law_is_plan : Addr
  d__law_is_plan : FuncData
  F__law_is_plan : FnP K "_law_is_plan" (top 34) a__law_is_plan d__law_is_plan
  g__law_is_plan : mg "_law_is_plan" = some (.ref a__law_is_plan)
  a_is_ascending : Addr
  d_is_ascending : FuncData
  F_is_ascending : FnP K "is_ascending" (top 7) a_is_ascending d_is_ascending
  g_is_ascending : mg "is_ascending" = some (.ref a_is_ascending)
  a_is_integer : Addr
  d_is_integer : FuncData
  F_is_integer : FnP K "is_integer" (top 3) a_is_integer d_is_integer
  g_is_integer : mg "is_integer" = some (.ref a_is_integer)
  a_is_between : Addr
  d_is_between : FuncData
  F_is_between : FnP K "is_between" (top 4) a_is_between d_is_between
  g_is_between : mg "is_between" = some (.ref a_is_between)
  a_are_endless_sizes : Addr
  d_are_endless_sizes : FuncData
  F_are_endless_sizes : FnP K "are_endless_sizes" (top 14) a_are_endless_sizes d_are_endless_sizes
  g_are_endless_sizes : mg "are_endless_sizes" = some (.ref a_are_endless_sizes)
  a_is_job_in : Addr
  d_is_job_in : FuncData
  F_is_job_in : FnP K "is_job_in" (top 6) a_is_job_in d_is_job_in
  g_is_job_in : mg "is_job_in" = some (.ref a_is_job_in)
  a_is_linked_wait : Addr
  d_is_linked_wait : FuncData
  F_is_linked_wait : FnP K "is_linked_wait" (top 15) a_is_linked_wait d_is_linked_wait
  g_is_linked_wait : mg "is_linked_wait" = some (.ref a_is_linked_wait)
  a_is_endless_plan : Addr
  d_is_endless_plan : FuncData
  F_is_endless_plan : FnP K "is_endless_plan" (top 16) a_is_endless_plan d_is_endless_plan
  g_is_endless_plan : mg "is_endless_plan" = some (.ref a_is_endless_plan)
  a_require_endless : Addr
  d_require_endless : FuncData
  F_require_endless : FnP K "require_endless" (top 18) a_require_endless d_require_endless
  g_require_endless : mg "require_endless" = some (.ref a_require_endless)
  a_find_links : Addr
  d_find_links : FuncData
  F_find_links : FnP K "find_links" (top 17) a_find_links d_find_links
  g_find_links : mg "find_links" = some (.ref a_find_links)
  a_links_of : Addr
  d_links_of : FuncData
  F_links_of : FnP K "links_of" (top 20) a_links_of d_links_of
  g_links_of : mg "links_of" = some (.ref a_links_of)
  a_is_endless : Addr
  d_is_endless : FuncData
  F_is_endless : FnP K "is_endless" (top 19) a_is_endless d_is_endless
  g_is_endless : mg "is_endless" = some (.ref a_is_endless)
  a_law : Addr
  d_law : FuncData
  F_law : FnP K "law" (top 36) a_law d_law
  g_law : mg "law" = some (.ref a_law)
  n_all : mg "all" = none
  n_bool : mg "bool" = none
  n_enumerate : mg "enumerate" = none
  n_int : mg "int" = none
  n_isinstance : mg "isinstance" = none
  n_len : mg "len" = none
  n_list : mg "list" = none
  n_range : mg "range" = none
  n_repr : mg "repr" = none
  n_set : mg "set" = none
  n_sorted : mg "sorted" = none
  n_tuple : mg "tuple" = none
  i_GREATEST_DISTANCE : ∃ t, mg "GREATEST_DISTANCE" = some (.int 3 t)
  i_GREATEST_SIZE : ∃ t, mg "GREATEST_SIZE" = some (.int 4 t)
  i_MOST_LINKED : ∃ t, mg "MOST_LINKED" = some (.int 12 t)
section
variable {P : Program} {w : World} {K : PySem.W.Frag} {mg : Str → Option Value} {base : Heap}
def Ly (w : World) (g : G K mg) : Lay := { w := w, cls := fun _ => 0, fld := fun _ => [], hid := fun _ => False }
theorem sc__law_open : FnScope (["script", "cells", "k", "cell"] : List Str) ["script"] (defScope (top 23)) := ⟨rfl, rfl, rfl, by decide +kernel, rfl, by decide +kernel, by decide +kernel⟩
theorem b__law_open_ (g : G K mg) : Binds K g.d__law_open ["script"] [] := g.F__law_open.bindsN fun _ _ _ _ _ _ us hl => match us, hl with | [_], _ => rfl
theorem ok__law_open (g : G K mg) : FnG (Ly w g) P w K mg base 1 g.a__law_open g.d__law_open ["script"] f__law_open :=
  funOk g.F__law_open sc__law_open rfl rfl mdK_ok mdK_okx fun cdv hid A outer s H E hr => by
    have sc := sc__law_open
    exact (ss_cons (ss_set sc.nd (sn_T call_listMC rfl g.n_list (sa_cons (sn_sl sl_M (sv 0) so_no (so_at sn_int)) sa_nil)))
    (ss_cons (ss_for (passes_of rfl) rfl (si_enum rfl g.n_enumerate (sa_cons (sn_sl sl_M (sv 0) (so_at sn_int) (so_at sn_int)) sa_nil)) (sg_tup rfl (sgs_cons (sg_name sc.nd) (sgs_cons (sg_name sc.nd) sgs_nil))) (ss_one (ss_asg (sn_bin op_plusM (sn_ix (sv 1) (sn_bin op_modM (sn_T call_intM rfl g.n_int (sa_cons (sv 2) sa_nil)) sn_int)) (sv 3)) (sg_ix (sv 1) (sn_bin op_modM (sn_T call_intM rfl g.n_int (sa_cons (sv 2) sa_nil)) sn_int)))))
    (ss_one (ss_ret (sn_lstC (sa_cons (sv 1) (sa_cons sn_int (sa_cons sn_int sa_nil))))))))
theorem sc__law_spread : FnScope (["cell", "at", "primes", "mixed", "one", "rest", "two", "three"] : List Str) ["cell", "at"] (defScope (top 22)) := ⟨rfl, rfl, rfl, by decide +kernel, rfl, by decide +kernel, by decide +kernel⟩
theorem b__law_spread_ (g : G K mg) : Binds K g.d__law_spread ["cell", "at"] [] := g.F__law_spread.bindsN fun _ _ _ _ _ _ us hl => match us, hl with | [_, _], _ => rfl
theorem ok__law_spread (g : G K mg) : FnG (Ly w g) P w K mg base 1 g.a__law_spread g.d__law_spread ["cell", "at"] f__law_spread :=
  funOk g.F__law_spread sc__law_spread rfl rfl mdF_ok mdD_okx fun cdv hid A outer s H E hr => by
    have sc := sc__law_spread
    exact (ss_cons (ss_if (st_cmp op_geM (sv 0) (sn_bin op_powM sn_int sn_int) rfl) (ss_one (ss_ret (sv 0))) ss_nil)
    (ss_cons (ss_set sc.nd (sn_lst (sa_cons sn_int (sa_cons sn_int (sa_cons sn_int (sa_cons sn_int (sa_cons sn_int (sa_cons sn_int (sa_cons sn_int sa_nil)))))))))
    (ss_cons (ss_set sc.nd (sn_bin op_plusM (sv 2) (sn_lst (sa_cons sn_int (sa_cons sn_int (sa_cons sn_int (sa_cons sn_int (sa_cons sn_int (sa_cons sn_int sa_nil)))))))))
    (ss_cons (ss_set sc.nd (sn_bin op_plusM (sn_bin op_plusM (sn_bin op_mulM2 (sn_bin op_modM (sn_T call_intM rfl g.n_int (sa_cons (sv 0) sa_nil)) sn_int) (sn_bin op_plusM (sn_bin op_mulM2 sn_int (sv 1)) sn_int)) (sn_bin op_mulM2 (sv 1) sn_int)) sn_int))
    (ss_cons (ss_set sc.nd (sn_bin op_modM (sn_T call_intM rfl g.n_int (sa_cons (sn_bin op_powM (sv 3) sn_int) sa_nil)) (sn_ix (sv 2) (sn_bin op_modM (sn_T call_intM rfl g.n_int (sa_cons (sv 1) sa_nil)) sn_int))))
    (ss_cons (ss_set sc.nd (sn_bin op_plusM (sn_bin op_modM (sn_T call_intM rfl g.n_int (sa_cons (sv 0) sa_nil)) sn_int) sn_int))
    (ss_cons (ss_set sc.nd (sn_bin op_modM (sn_T call_intM rfl g.n_int (sa_cons (sn_bin op_powM (sn_bin op_plusM (sn_bin op_mulM2 (sv 4) (sn_bin op_plusM (sv 1) sn_int)) (sv 5)) sn_int) sa_nil)) (sn_ix (sv 2) (sn_bin op_modM (sn_T call_intM rfl g.n_int (sa_cons (sn_bin op_plusM (sv 1) sn_int) sa_nil)) sn_int))))
    (ss_cons (ss_set sc.nd (sn_bin op_modM (sn_T call_intM rfl g.n_int (sa_cons (sn_bin op_powM (sn_bin op_plusM (sn_bin op_plusM (sv 6) (sn_bin op_modM (sn_T call_intM rfl g.n_int (sa_cons (sv 4) sa_nil)) sn_int)) (sv 1)) sn_int) sa_nil)) (sn_ix (sv 2) (sn_bin op_modM (sn_T call_intM rfl g.n_int (sa_cons (sn_bin op_plusM (sv 1) sn_int) sa_nil)) sn_int))))
    (ss_one (ss_ret (sn_bin op_plusM (sn_bin op_mulM2 (sn_bin op_plusM (sn_bin op_mulM2 (sv 4) sn_int) (sv 6)) sn_int) (sv 7))))))))))))
theorem sc__law_take : FnScope (["pen", "many", "found", "at", "cell"] : List Str) ["pen", "many"] (defScope (top 24)) := ⟨rfl, rfl, rfl, by decide +kernel, rfl, by decide +kernel, by decide +kernel⟩
theorem b__law_take_ (g : G K mg) : Binds K g.d__law_take ["pen", "many"] [] := g.F__law_take.bindsN fun _ _ _ _ _ _ us hl => match us, hl with | [_, _], _ => rfl
theorem ok__law_take (g : G K mg) : FnG (Ly w g) P w K mg base 2 g.a__law_take g.d__law_take ["pen", "many"] f__law_take :=
  funOk g.F__law_take sc__law_take rfl rfl mdF_ok mdD_okx fun cdv hid A outer s H E hr => by
    have sc := sc__law_take
    exact (ss_cons (ss_if (st_cmp op_ltM (sn_ix (sv 0) sn_int) (sv 1) rfl) (ss_cons (ss_set sc.nd (sn_ix (sv 0) sn_int))
    (ss_cons (ss_set sc.nd sn_int)
    (ss_cons (ss_if (st_cmp op_ltM (sv 3) (sn_B call_lenM rfl g.n_len (sa_cons (sn_ix (sv 0) sn_int) sa_nil)) rfl) (ss_one (ss_set sc.nd (sn_ix (sn_ix (sv 0) sn_int) (sv 3)))) (ss_one (ss_if (st_cmp op_gtM (sn_B call_lenM rfl g.n_len (sa_cons (sn_ix (sv 0) sn_int) sa_nil)) sn_int rfl) (ss_one (ss_set sc.nd (sn_bin op_modM (sn_T call_intM rfl g.n_int (sa_cons (sn_ix (sn_ix (sv 0) sn_int) (sn_bin op_modM (sn_T call_intM rfl g.n_int (sa_cons (sn_bin op_plusM (sn_bin op_mulM2 (sv 3) sn_int) sn_int) sa_nil)) (sn_B call_lenM rfl g.n_len (sa_cons (sn_ix (sv 0) sn_int) sa_nil)))) sa_nil)) (sn_bin op_plusM (sn_bin op_powM sn_int sn_int) (sv 3))))) ss_nil)))
    (ss_cons (ss_asg (sn_bin op_plusM (sv 3) sn_int) (sg_ix (sv 0) sn_int))
    (ss_one (ss_asg (sn_call (ok__law_spread g) (hr.mono (by decide)) (takes_of rfl rfl rfl rfl) rfl g.g__law_spread g.F__law_spread.kp (b__law_spread_ g) (sa_cons (sv 4) (sa_cons (sv 3) sa_nil))) (sg_ix (sv 0) sn_int))))))) ss_nil)
    (ss_cons (ss_set sc.nd (sn_bin op_modM (sn_T call_intM rfl g.n_int (sa_cons (sn_ix (sv 0) sn_int) sa_nil)) (sv 1)))
    (ss_cons (ss_asg (sn_bin op_fdivM (sn_ix (sv 0) sn_int) (sv 1)) (sg_ix (sv 0) sn_int))
    (ss_one (ss_ret (sv 2))))))
theorem sc__law_one : FnScope (["pen", "some"] : List Str) ["pen", "some"] (defScope (top 26)) := ⟨rfl, rfl, rfl, by decide +kernel, rfl, by decide +kernel, by decide +kernel⟩
theorem b__law_one_ (g : G K mg) : Binds K g.d__law_one ["pen", "some"] [] := g.F__law_one.bindsN fun _ _ _ _ _ _ us hl => match us, hl with | [_, _], _ => rfl
theorem ok__law_one (g : G K mg) : FnG (Ly w g) P w K mg base 3 g.a__law_one g.d__law_one ["pen", "some"] f__law_one :=
  funOk g.F__law_one sc__law_one rfl rfl mdF_ok mdD_okx fun cdv hid A outer s H E hr => by
    have sc := sc__law_one
    exact (ss_one (ss_ret (sn_ix (sv 1) (sn_call (ok__law_take g) (hr.mono (by decide)) (takes_of rfl rfl rfl rfl) rfl g.g__law_take g.F__law_take.kp (b__law_take_ g) (sa_cons (sv 0) (sa_cons (sn_B call_lenM rfl g.n_len (sa_cons (sv 1) sa_nil)) sa_nil))))))
theorem sc__law_all_members : FnScope (["sizes", "found", "queue", "size", "place"] : List Str) ["sizes"] (defScope (top 27)) := ⟨rfl, rfl, rfl, by decide +kernel, rfl, by decide +kernel, by decide +kernel⟩
theorem b__law_all_members_ (g : G K mg) : Binds K g.d__law_all_members ["sizes"] [] := g.F__law_all_members.bindsN fun _ _ _ _ _ _ us hl => match us, hl with | [_], _ => rfl
theorem ok__law_all_members (g : G K mg) : FnG (Ly w g) P w K mg base 1 g.a__law_all_members g.d__law_all_members ["sizes"] f__law_all_members :=
  funOk g.F__law_all_members sc__law_all_members rfl rfl mdF_ok mdD_okx fun cdv hid A outer s H E hr => by
    have sc := sc__law_all_members
    exact (ss_cons (ss_set sc.nd (sn_lstC sa_nil))
    (ss_cons (ss_for (passes_of rfl) rfl (si_enum rfl g.n_enumerate (sa_cons (sv 0) sa_nil)) (sg_tup rfl (sgs_cons (sg_name sc.nd) (sgs_cons (sg_name sc.nd) sgs_nil))) (ss_one (ss_expr (sn_mt F.slot_list_extend F.type_list_extend mt_extendM (sv 1) (sa_cons (sn_lc (own := [("place", 4)]) rfl sc.nd (si_rng1 rfl g.n_range (sa_cons (sv 3) sa_nil)) rfl (fun _ _ _ _ _ _ => (sgo_name sc.nd)) (fun _ _ _ _ _ _ => sts_nil) (fun _ _ _ _ _ _ => (sn_tup (sa_cons (sv 2) (sa_cons (sv 4) sa_nil))))) sa_nil)))))
    (ss_one (ss_ret (sv 1)))))
theorem sc__law_drawn_wait : FnScope (["pen", "sizes", "members", "first", "others", "second", "job"] : List Str) ["pen", "sizes"] (defScope (top 30)) := ⟨rfl, rfl, rfl, by decide +kernel, rfl, by decide +kernel, by decide +kernel⟩
theorem b__law_drawn_wait_ (g : G K mg) : Binds K g.d__law_drawn_wait ["pen", "sizes"] [] := g.F__law_drawn_wait.bindsN fun _ _ _ _ _ _ us hl => match us, hl with | [_, _], _ => rfl
theorem ok__law_drawn_wait (g : G K mg) : FnG (Ly w g) P w K mg base 4 g.a__law_drawn_wait g.d__law_drawn_wait ["pen", "sizes"] f__law_drawn_wait :=
  funOk g.F__law_drawn_wait sc__law_drawn_wait rfl rfl mdF_ok mdD_okx fun cdv hid A outer s H E hr => by
    have sc := sc__law_drawn_wait
    exact (ss_cons (ss_set sc.nd (sn_call (ok__law_all_members g) (hr.mono (by decide)) (takes_of rfl rfl rfl rfl) rfl g.g__law_all_members g.F__law_all_members.kp (b__law_all_members_ g) (sa_cons (sv 1) sa_nil)))
    (ss_cons (ss_set sc.nd (sn_call (ok__law_one g) (hr.mono (by decide)) (takes_of rfl rfl rfl rfl) rfl g.g__law_one g.F__law_one.kp (b__law_one_ g) (sa_cons (sv 0) (sa_cons (sv 2) sa_nil))))
    (ss_cons (ss_lc (own := [("job", 6)]) rfl sc.nd rfl (sw_true rfl rfl rfl rfl) (si_seq (sv 2)) rfl (fun _ _ _ _ _ _ => (sgo_name sc.nd)) (fun _ _ _ _ _ _ => (sts_one (st_cmp (op_neM hr.un) (sn_ix (sv 6) sn_int) (sn_ix (sv 3) sn_int) rfl))) (fun _ _ _ _ _ _ => (sv 6)))
    (ss_cons (ss_if (st_cmp (op_eqM hr.un) (sv 4) (sn_lst sa_nil) rfl) (ss_one (ss_ret sn_non)) ss_nil)
    (ss_cons (ss_set sc.nd (sn_call (ok__law_one g) (hr.mono (by decide)) (takes_of rfl rfl rfl rfl) rfl g.g__law_one g.F__law_one.kp (b__law_one_ g) (sa_cons (sv 0) (sa_cons (sv 4) sa_nil))))
    (ss_one (ss_ret (sn_tup (sa_cons (sv 3) (sa_cons (sv 5) (sa_cons (sn_call (ok__law_one g) (hr.mono (by decide)) (takes_of rfl rfl rfl rfl) rfl g.g__law_one g.F__law_one.kp (b__law_one_ g) (sa_cons (sv 0) (sa_cons (sn_lst (sa_cons sn_int (sa_cons sn_int (sa_cons sn_int (sa_cons sn_int (sa_cons sn_int (sa_cons sn_int sa_nil))))))) sa_nil))) sa_nil)))))))))))
theorem sc__law_all_ties : FnScope (["plan", "found", "queue", "size", "place"] : List Str) ["plan"] (defScope (top 28)) := ⟨rfl, rfl, rfl, by decide +kernel, rfl, by decide +kernel, by decide +kernel⟩
theorem b__law_all_ties_ (g : G K mg) : Binds K g.d__law_all_ties ["plan"] [] := g.F__law_all_ties.bindsN fun _ _ _ _ _ _ us hl => match us, hl with | [_], _ => rfl
theorem ok__law_all_ties (g : G K mg) : FnG (Ly w g) P w K mg base 1 g.a__law_all_ties g.d__law_all_ties ["plan"] f__law_all_ties :=
  funOk g.F__law_all_ties sc__law_all_ties rfl rfl mdF_ok mdD_okx fun cdv hid A outer s H E hr => by
    have sc := sc__law_all_ties
    exact (ss_cons (ss_set sc.nd (sn_T call_listMC rfl g.n_list (sa_cons (sn_ix (sv 0) sn_int) sa_nil)))
    (ss_cons (ss_for (passes_of rfl) rfl (si_enum rfl g.n_enumerate (sa_cons (sn_ix (sv 0) sn_int) sa_nil)) (sg_tup rfl (sgs_cons (sg_name sc.nd) (sgs_cons (sg_name sc.nd) sgs_nil))) (ss_cons (ss_expr (sn_mt F.slot_list_extend F.type_list_extend mt_extendM (sv 1) (sa_cons (sn_lc (own := [("place", 4)]) rfl sc.nd (si_rng1 rfl g.n_range (sa_cons (sn_bin op_subM (sv 3) sn_int) sa_nil)) rfl (fun _ _ _ _ _ _ => (sgo_name sc.nd)) (fun _ _ _ _ _ _ => sts_nil) (fun _ _ _ _ _ _ => (sn_tup (sa_cons (sn_tup (sa_cons (sv 2) (sa_cons (sv 4) sa_nil))) (sa_cons (sn_tup (sa_cons (sv 2) (sa_cons (sn_bin op_plusM (sv 4) sn_int) sa_nil))) (sa_cons sn_int sa_nil)))))) sa_nil)))
    (ss_one (ss_expr (sn_mt F.slot_list_append F.type_list_append mt_appendM (sv 1) (sa_cons (sn_tup (sa_cons (sn_tup (sa_cons (sv 2) (sa_cons (sn_bin op_subM (sv 3) sn_int) sa_nil))) (sa_cons (sn_tup (sa_cons (sv 2) (sa_cons sn_int sa_nil))) (sa_cons sn_int sa_nil)))) sa_nil))))))
    (ss_one (ss_ret (sn_B (call_sortM hr.un) rfl g.n_sorted (sa_cons (sv 1) sa_nil))))))
theorem sc__law_leads_plainly : FnScope (["plan", "job", "other", "ties", "found", "k", "more", "tie", "one"] : List Str) ["plan", "job", "other"] (defScope (top 29)) := ⟨rfl, rfl, rfl, by decide +kernel, rfl, by decide +kernel, by decide +kernel⟩
theorem b__law_leads_plainly_ (g : G K mg) : Binds K g.d__law_leads_plainly ["plan", "job", "other"] [] := g.F__law_leads_plainly.bindsN fun _ _ _ _ _ _ us hl => match us, hl with | [_, _, _], _ => rfl
theorem ok__law_leads_plainly (g : G K mg) : FnG (Ly w g) P w K mg base 2 g.a__law_leads_plainly g.d__law_leads_plainly ["plan", "job", "other"] f__law_leads_plainly :=
  funOk g.F__law_leads_plainly sc__law_leads_plainly rfl rfl mdF_ok mdD_okx fun cdv hid A outer s H E hr => by
    have sc := sc__law_leads_plainly
    exact (ss_cons (ss_asg (sn_tup (sa_cons (sn_lst (sa_cons (sv 1) sa_nil)) (sa_cons sn_int sa_nil))) (sg_tup rfl (sgs_cons (sg_name sc.nd) (sgs_cons (sg_name sc.nd) sgs_nil))))
    (ss_cons (ss_lc (own := [("tie", 7)]) rfl sc.nd rfl (sw_true rfl rfl rfl rfl) (si_seq (sn_call (ok__law_all_ties g) (hr.mono (by decide)) (takes_of rfl rfl rfl rfl) rfl g.g__law_all_ties g.F__law_all_ties.kp (b__law_all_ties_ g) (sa_cons (sv 0) sa_nil))) rfl (fun _ _ _ _ _ _ => (sgo_name sc.nd)) (fun _ _ _ _ _ _ => (sts_one (st_cmp (op_eqM hr.un) (sn_ix (sv 7) sn_int) sn_int rfl))) (fun _ _ _ _ _ _ => (sv 7)))
    (ss_cons (ss_while (passes_of rfl) (st_cmp op_ltM (sv 5) (sn_B call_lenM rfl g.n_len (sa_cons (sv 4) sa_nil)) rfl) (ss_cons (ss_lc (own := [("tie", 7)]) rfl sc.nd rfl (sw_true rfl rfl rfl rfl) (si_seq (sv 3)) rfl (fun _ _ _ _ _ _ => (sgo_name sc.nd)) (fun _ _ _ _ _ _ => (sts_one (st_cmp (op_eqM hr.un) (sn_ix (sv 7) sn_int) (sn_ix (sv 4) (sv 5)) rfl))) (fun _ _ _ _ _ _ => (sn_ix (sv 7) sn_int)))
    (ss_cons (ss_set sc.nd (sn_bin op_plusM (sv 4) (sn_lc (own := [("one", 8)]) rfl sc.nd (si_seq (sv 6)) rfl (fun _ _ _ _ _ _ => (sgo_name sc.nd)) (fun _ _ _ _ _ _ => (sts_one (st_cmp (op_notInSeqM hr.un65) (sv 8) (sv 4) rfl))) (fun _ _ _ _ _ _ => (sv 8)))))
    (ss_one (ss_set sc.nd (sn_bin op_plusM (sv 5) sn_int))))))
    (ss_one (ss_ret (sn_cmp (op_inSeqM hr.un65) (sv 2) (sv 4) rfl))))))
theorem sc__law_drawn_plan : FnScope (["pen", "most", "many", "sizes", "waits", "step", "wait", "k"] : List Str) ["pen", "most"] (defScope (top 31)) := ⟨rfl, rfl, rfl, by decide +kernel, rfl, by decide +kernel, by decide +kernel⟩
theorem b__law_drawn_plan_ (g : G K mg) : Binds K g.d__law_drawn_plan ["pen", "most"] [] := g.F__law_drawn_plan.bindsN fun _ _ _ _ _ _ us hl => match us, hl with | [_, _], _ => rfl
theorem ok__law_drawn_plan (g : G K mg) : FnG (Ly w g) P w K mg base 5 g.a__law_drawn_plan g.d__law_drawn_plan ["pen", "most"] f__law_drawn_plan :=
  funOk g.F__law_drawn_plan sc__law_drawn_plan rfl rfl mdF_ok mdD_okx fun cdv hid A outer s H E hr => by
    have sc := sc__law_drawn_plan
    exact (ss_cons (ss_set sc.nd (sn_call (ok__law_one g) (hr.mono (by decide)) (takes_of rfl rfl rfl rfl) rfl g.g__law_one g.F__law_one.kp (b__law_one_ g) (sa_cons (sv 0) (sa_cons (sn_lst (sa_cons sn_int (sa_cons sn_int (sa_cons sn_int (sa_cons sn_int (sa_cons sn_int (sa_cons sn_int sa_nil))))))) sa_nil))))
    (ss_cons (ss_set sc.nd (sn_T call_tupleM rfl g.n_tuple (sa_cons (sn_lc (own := [("k", 7)]) rfl sc.nd (si_rng1 rfl g.n_range (sa_cons (sv 2) sa_nil)) rfl (fun _ _ _ _ _ _ => (sgo_name sc.nd)) (fun _ _ _ _ _ _ => sts_nil) (fun _ _ _ _ _ _ => (sn_call (ok__law_one g) (hr.mono (by decide)) takes_no rfl g.g__law_one g.F__law_one.kp (b__law_one_ g) (sa_cons (sv 0) (sa_cons (sn_lst (sa_cons sn_int (sa_cons sn_int (sa_cons sn_int (sa_cons sn_int (sa_cons sn_int (sa_cons sn_int sa_nil))))))) sa_nil))))) sa_nil)))
    (ss_cons (ss_set sc.nd (sn_lstC sa_nil))
    (ss_cons (ss_for (passes_of rfl) rfl (si_rng1 rfl g.n_range (sa_cons (sn_call (ok__law_take g) (hr.mono (by decide)) (takes_of rfl rfl rfl rfl) rfl g.g__law_take g.F__law_take.kp (b__law_take_ g) (sa_cons (sv 0) (sa_cons (sn_bin op_plusM (sv 1) sn_int) sa_nil))) sa_nil)) (sg_name sc.nd) (ss_cons (ss_set sc.nd (sn_call (ok__law_drawn_wait g) (hr.mono (by decide)) (takes_of rfl rfl rfl rfl) rfl g.g__law_drawn_wait g.F__law_drawn_wait.kp (b__law_drawn_wait_ g) (sa_cons (sv 0) (sa_cons (sv 3) sa_nil))))
    (ss_one (ss_if (st_cmp op_isNotM (sv 6) sn_non rfl) (ss_cons (ss_if (sw_st (sw_and (st_cmp (op_eqM hr.un) (sn_ix (sv 6) sn_int) sn_int rfl) (sw_and1 (st_val (sn_call (ok__law_leads_plainly g) (hr.mono (by decide)) (takes_of rfl rfl rfl rfl) rfl g.g__law_leads_plainly g.F__law_leads_plainly.kp (b__law_leads_plainly_ g) (sa_cons (sn_tup (sa_cons (sv 3) (sa_cons (sn_T call_tupleM rfl g.n_tuple (sa_cons (sv 4) sa_nil)) sa_nil))) (sa_cons (sn_ix (sv 6) sn_int) (sa_cons (sn_ix (sv 6) sn_int) sa_nil)))))))) (ss_one (ss_set sc.nd (sn_tup (sa_cons (sn_ix (sv 6) sn_int) (sa_cons (sn_ix (sv 6) sn_int) (sa_cons (sn_bin op_plusM sn_int (sn_call (ok__law_take g) (hr.mono (by decide)) (takes_of rfl rfl rfl rfl) rfl g.g__law_take g.F__law_take.kp (b__law_take_ g) (sa_cons (sv 0) (sa_cons sn_int sa_nil)))) sa_nil)))))) ss_nil)
    (ss_one (ss_if (st_cmp (op_notInSeqM hr.un65) (sv 6) (sv 4) rfl) (ss_one (ss_expr (sn_mt F.slot_list_append F.type_list_append mt_appendM (sv 4) (sa_cons (sv 6) sa_nil)))) ss_nil))) ss_nil))))
    (ss_one (ss_ret (sn_tup (sa_cons (sv 3) (sa_cons (sn_T call_tupleM rfl g.n_tuple (sa_cons (sn_B (call_sortM hr.un) rfl g.n_sorted (sa_cons (sv 4) sa_nil)) sa_nil)) sa_nil)))))))))
theorem sc__law_anew : FnScope (["pen"] : List Str) ["pen"] (defScope (top 25)) := ⟨rfl, rfl, rfl, by decide +kernel, rfl, by decide +kernel, by decide +kernel⟩
theorem b__law_anew_ (g : G K mg) : Binds K g.d__law_anew ["pen"] [] := g.F__law_anew.bindsN fun _ _ _ _ _ _ us hl => match us, hl with | [_], _ => rfl
theorem ok__law_anew (g : G K mg) : FnG (Ly w g) P w K mg base 1 g.a__law_anew g.d__law_anew ["pen"] f__law_anew :=
  funOk g.F__law_anew sc__law_anew rfl rfl mdF_ok mdD_okx fun cdv hid A outer s H E hr => by
    have sc := sc__law_anew
    exact (ss_cons (ss_asg sn_int (sg_ix (sv 0) sn_int))
    (ss_one (ss_ret (sv 0))))
theorem sc__law_bent : FnScope (["pen", "value", "at", "sort"] : List Str) ["pen", "value"] (defScope (top 35)) := ⟨rfl, rfl, rfl, by decide +kernel, rfl, by decide +kernel, by decide +kernel⟩
theorem b__law_bent_ (g : G K mg) : Binds K g.d__law_bent ["pen", "value"] [] := g.F__law_bent.bindsN fun _ _ _ _ _ _ us hl => match us, hl with | [_, _], _ => rfl
theorem ok__law_bent (g : G K mg) : ∀ k : Nat, FnG (Ly w g) P w K mg base (4 + k) g.a__law_bent g.d__law_bent ["pen", "value"] (f__law_bent k)
  | 0 => ⟨fun _ _ _ _ z => z.elim, fun _ _ _ _ _ _ _ _ _ _ _ _ _ _ _ _ _ _ _ _ _ z => z.elim⟩
  | k + 1 => funOk g.F__law_bent sc__law_bent rfl rfl mdF_ok mdD_okx fun cdv hid A outer s H E hr => by
    have sc := sc__law_bent
    have ih := ok__law_bent g k
    replace hr := (show RoomG (4 + k) _ from hr)
    exact (ss_cons (ss_if (sw_st (sw_or (st_not (st_val (sn_isi rfl g.n_isinstance rfl g.n_tuple (sv 1)))) (sw_or (st_cmp (op_eqM hr.un) (sv 1) (sn_tup sa_nil) rfl) (sw_or1 (st_cmp (op_eqM hr.un) (sn_call (ok__law_take g) (hr.mono (by omega)) (takes_of rfl rfl rfl rfl) rfl g.g__law_take g.F__law_take.kp (b__law_take_ g) (sa_cons (sv 0) (sa_cons sn_int sa_nil))) sn_int rfl))))) (ss_one (ss_ret (sn_call (ok__law_one g) (hr.mono (by omega)) (takes_of rfl rfl rfl rfl) rfl g.g__law_one g.F__law_one.kp (b__law_one_ g) (sa_cons (sv 0) (sa_cons (sn_lst (sa_cons sn_non (sa_cons sn_int (sa_cons sn_int (sa_cons sn_int (sa_cons sn_int (sa_cons sn_int (sa_cons (sn_un un_negM sn_int) (sa_cons sn_bl (sa_cons sn_bl (sa_cons sn_str (sa_cons sn_str (sa_cons (sn_tup sa_nil) (sa_cons (sn_lst sa_nil) (sa_cons (sn_tup (sa_cons sn_int (sa_cons sn_int sa_nil))) (sa_cons (sn_tup (sa_cons sn_int (sa_cons sn_int sa_nil))) (sa_cons (sn_tup (sa_cons (sn_tup (sa_cons sn_int (sa_cons sn_int sa_nil))) sa_nil)) sa_nil))))))))))))))))) sa_nil))))) ss_nil)
    (ss_cons (ss_par sc.nd (sa_cons (sn_call (ok__law_take g) (hr.mono (by omega)) (takes_of rfl rfl rfl rfl) rfl g.g__law_take g.F__law_take.kp (b__law_take_ g) (sa_cons (sv 0) (sa_cons (sn_B call_lenM rfl g.n_len (sa_cons (sv 1) sa_nil)) sa_nil))) (sa_cons (sn_call (ok__law_take g) (hr.mono (by omega)) (takes_of rfl rfl rfl rfl) rfl g.g__law_take g.F__law_take.kp (b__law_take_ g) (sa_cons (sv 0) (sa_cons sn_int sa_nil))) sa_nil)))
    (ss_cons (ss_if (st_cmp (op_eqM hr.un) (sv 3) sn_int rfl) (ss_one (ss_ret (sn_bin op_plusM (sn_sl sl_M (sv 1) so_no (so_at (sv 2))) (sn_sl sl_M (sv 1) (so_at (sn_bin op_plusM (sv 2) sn_int)) so_no)))) ss_nil)
    (ss_cons (ss_if (st_cmp (op_eqM hr.un) (sv 3) sn_int rfl) (ss_one (ss_ret (sn_bin op_plusM (sv 1) (sn_sl sl_M (sv 1) (so_at (sv 2)) (so_at (sn_bin op_plusM (sv 2) sn_int)))))) ss_nil)
    (ss_cons (ss_if (st_cmp (op_eqM hr.un) (sv 3) sn_int rfl) (ss_one (ss_ret (sn_call (ok__law_one g) (hr.mono (by omega)) (takes_of rfl rfl rfl rfl) rfl g.g__law_one g.F__law_one.kp (b__law_one_ g) (sa_cons (sv 0) (sa_cons (sn_lst (sa_cons (sn_T call_listM rfl g.n_list (sa_cons (sv 1) sa_nil)) (sa_cons (sn_rev (sv 1)) sa_nil))) sa_nil))))) ss_nil)
    (ss_one (ss_ret (sn_bin op_plusM (sn_bin op_plusM (sn_sl sl_M (sv 1) so_no (so_at (sv 2))) (sn_tup (sa_cons (sn_call ih (hr.mono (by omega)) (takes_of rfl rfl rfl rfl) rfl g.g__law_bent g.F__law_bent.kp (b__law_bent_ g) (sa_cons (sv 0) (sa_cons (sn_ix (sv 1) (sv 2)) sa_nil))) sa_nil))) (sn_sl sl_M (sv 1) (so_at (sn_bin op_plusM (sv 2) sn_int)) so_no)))))))))
theorem sc__law_is_whole : FnScope (["value", "least", "most"] : List Str) ["value", "least", "most"] (defScope (top 32)) := ⟨rfl, rfl, rfl, by decide +kernel, rfl, by decide +kernel, by decide +kernel⟩
theorem b__law_is_whole_ (g : G K mg) : Binds K g.d__law_is_whole ["value", "least", "most"] [] := g.F__law_is_whole.bindsN fun _ _ _ _ _ _ us hl => match us, hl with | [_, _, _], _ => rfl
theorem ok__law_is_whole (g : G K mg) : FnG (Ly w g) P w K mg base 1 g.a__law_is_whole g.d__law_is_whole ["value", "least", "most"] f__law_is_whole :=
  funOk g.F__law_is_whole sc__law_is_whole rfl rfl mdF_ok mdD_okx fun cdv hid A outer s H E hr => by
    have sc := sc__law_is_whole
    exact (ss_one (ss_ret (sn_and (sn_isi rfl g.n_isinstance rfl g.n_int (sv 0)) (sn_and (sn_not (sn_isi rfl g.n_isinstance rfl g.n_bool (sv 0))) (sn_one (sn_chain op_leM op_leM (sv 1) (sv 0) (sv 2)))))))
theorem sc__law_is_member : FnScope (["sizes", "value"] : List Str) ["sizes", "value"] (defScope (top 33)) := ⟨rfl, rfl, rfl, by decide +kernel, rfl, by decide +kernel, by decide +kernel⟩
theorem b__law_is_member_ (g : G K mg) : Binds K g.d__law_is_member ["sizes", "value"] [] := g.F__law_is_member.bindsN fun _ _ _ _ _ _ us hl => match us, hl with | [_, _], _ => rfl
theorem ok__law_is_member (g : G K mg) : FnG (Ly w g) P w K mg base 2 g.a__law_is_member g.d__law_is_member ["sizes", "value"] f__law_is_member :=
  funOk g.F__law_is_member sc__law_is_member rfl rfl mdF_ok mdD_okx fun cdv hid A outer s H E hr => by
    have sc := sc__law_is_member
    exact (ss_cons (ss_if (sw_st (sw_or (st_not (st_val (sn_isi rfl g.n_isinstance rfl g.n_tuple (sv 1)))) (sw_or (st_cmp (op_neM hr.un) (sn_B call_lenM rfl g.n_len (sa_cons (sv 1) sa_nil)) sn_int rfl) (sw_or1 (st_not (st_val (sn_call (ok__law_is_whole g) (hr.mono (by decide)) (takes_of rfl rfl rfl rfl) rfl g.g__law_is_whole g.F__law_is_whole.kp (b__law_is_whole_ g) (sa_cons (sn_ix (sv 1) sn_int) (sa_cons sn_int (sa_cons (sn_bin op_subM (sn_B call_lenM rfl g.n_len (sa_cons (sv 0) sa_nil)) sn_int) sa_nil)))))))))) (ss_one (ss_ret sn_bl)) ss_nil)
    (ss_one (ss_ret (sn_call (ok__law_is_whole g) (hr.mono (by decide)) (takes_of rfl rfl rfl rfl) rfl g.g__law_is_whole g.F__law_is_whole.kp (b__law_is_whole_ g) (sa_cons (sn_ix (sv 1) sn_int) (sa_cons sn_int (sa_cons (sn_bin op_subM (sn_ix (sv 0) (sn_ix (sv 1) sn_int)) sn_int) sa_nil)))))))
theorem sc__law_is_plan : FnScope (["value", "wait", "sizes", "waits", "size"] : List Str) ["value"] (defScope (top 34)) := ⟨rfl, rfl, rfl, by decide +kernel, rfl, by decide +kernel, by decide +kernel⟩
theorem b__law_is_plan_ (g : G K mg) : Binds K g.d__law_is_plan ["value"] [] := g.F__law_is_plan.bindsN fun _ _ _ _ _ _ us hl => match us, hl with | [_], _ => rfl
theorem ok__law_is_plan (g : G K mg) : FnG (Ly w g) P w K mg base 3 g.a__law_is_plan g.d__law_is_plan ["value"] f__law_is_plan :=
  funOk g.F__law_is_plan sc__law_is_plan rfl rfl mdF_ok mdD_okx fun cdv hid A outer s H E hr => by
    have sc := sc__law_is_plan
    exact (ss_cons (ss_if (sw_st (sw_or (st_not (st_val (sn_isi rfl g.n_isinstance rfl g.n_tuple (sv 0)))) (sw_or (st_cmp (op_neM hr.un) (sn_B call_lenM rfl g.n_len (sa_cons (sv 0) sa_nil)) sn_int rfl) (sw_or1 (st_not (st_val (sn_isi rfl g.n_isinstance rfl g.n_tuple (sn_ix (sv 0) sn_int)))))))) (ss_one (ss_ret sn_bl)) ss_nil)
    (ss_cons (ss_asg (sv 0) (sg_tup rfl (sgs_cons (sg_name sc.nd) (sgs_cons (sg_name sc.nd) sgs_nil))))
    (ss_cons (ss_if (sw_st (sw_or (st_not (st_chain op_leM op_leM sn_int (sn_B call_lenM rfl g.n_len (sa_cons (sv 2) sa_nil)) sn_int)) (sw_or1 (st_cmp (op_inSeqM hr.un65) sn_bl (sn_lc (own := [("size", 4)]) rfl sc.nd (si_seq (sv 2)) rfl (fun _ _ _ _ _ _ => (sgo_name sc.nd)) (fun _ _ _ _ _ _ => sts_nil) (fun _ _ _ _ _ _ => (sn_call (ok__law_is_whole g) (hr.mono (by decide)) takes_no rfl g.g__law_is_whole g.F__law_is_whole.kp (b__law_is_whole_ g) (sa_cons (sv 4) (sa_cons sn_int (sa_cons sn_int sa_nil)))))) rfl)))) (ss_one (ss_ret sn_bl)) ss_nil)
    (ss_cons (ss_if (sw_st (sw_or (st_not (st_val (sn_isi rfl g.n_isinstance rfl g.n_tuple (sv 3)))) (sw_or1 (st_cmp op_gtM (sn_B call_lenM rfl g.n_len (sa_cons (sv 3) sa_nil)) sn_int rfl)))) (ss_one (ss_ret sn_bl)) ss_nil)
    (ss_cons (ss_for (passes_of rfl) rfl (si_seq (sv 3)) (sg_name sc.nd) (ss_cons (ss_if (sw_st (sw_or (st_not (st_val (sn_isi rfl g.n_isinstance rfl g.n_tuple (sv 1)))) (sw_or (st_cmp (op_neM hr.un) (sn_B call_lenM rfl g.n_len (sa_cons (sv 1) sa_nil)) sn_int rfl) (sw_or1 (st_not (st_val (sn_call (ok__law_is_whole g) (hr.mono (by decide)) (takes_of rfl rfl rfl rfl) rfl g.g__law_is_whole g.F__law_is_whole.kp (b__law_is_whole_ g) (sa_cons (sn_ix (sv 1) sn_int) (sa_cons sn_int (sa_cons sn_int sa_nil)))))))))) (ss_one (ss_ret sn_bl)) ss_nil)
    (ss_one (ss_if (sw_st (sw_or (st_not (st_val (sn_call (ok__law_is_member g) (hr.mono (by decide)) (takes_of rfl rfl rfl rfl) rfl g.g__law_is_member g.F__law_is_member.kp (b__law_is_member_ g) (sa_cons (sv 2) (sa_cons (sn_ix (sv 1) sn_int) sa_nil))))) (sw_or (st_not (st_val (sn_call (ok__law_is_member g) (hr.mono (by decide)) (takes_of rfl rfl rfl rfl) rfl g.g__law_is_member g.F__law_is_member.kp (b__law_is_member_ g) (sa_cons (sv 2) (sa_cons (sn_ix (sv 1) sn_int) sa_nil))))) (sw_or1 (st_cmp (op_eqM hr.un) (sn_ix (sn_ix (sv 1) sn_int) sn_int) (sn_ix (sn_ix (sv 1) sn_int) sn_int) rfl))))) (ss_one (ss_ret sn_bl)) ss_nil))))
    (ss_one (ss_ret (sn_cmp (op_eqM hr.un) (sn_B (call_sortSetM rfl hr.un rfl) rfl g.n_sorted (sa_cons (sn_T (call_setM rfl hr.un rfl) rfl g.n_set (sa_cons (sv 3) sa_nil)) sa_nil)) (sn_T call_listM rfl g.n_list (sa_cons (sv 3) sa_nil)) rfl))))))))
theorem sc_is_ascending : FnScope (["waits"] : List Str) ["waits"] (defScope (top 7)) := ⟨rfl, rfl, rfl, by decide +kernel, rfl, by decide +kernel, by decide +kernel⟩
theorem b_is_ascending_ (g : G K mg) : Binds K g.d_is_ascending ["waits"] [] := g.F_is_ascending.bindsN fun _ _ _ _ _ _ us hl => match us, hl with | [_], _ => rfl
theorem ok_is_ascending (g : G K mg) : FnG (Ly w g) P w K mg base 1 g.a_is_ascending g.d_is_ascending ["waits"] f_is_ascending :=
  funOk g.F_is_ascending sc_is_ascending rfl rfl mdF_ok mdD_okx fun cdv hid A outer s H E hr => by
    have sc := sc_is_ascending
    exact (ss_one (ss_ret (sn_cmp (op_eqM hr.un) (sn_T call_listM rfl g.n_list (sa_cons (sv 0) sa_nil)) (sn_B (call_sortSetM rfl hr.un rfl) rfl g.n_sorted (sa_cons (sn_T (call_setM rfl hr.un rfl) rfl g.n_set (sa_cons (sv 0) sa_nil)) sa_nil)) rfl)))
theorem sc_is_integer : FnScope (["value"] : List Str) ["value"] (defScope (top 3)) := ⟨rfl, rfl, rfl, by decide +kernel, rfl, by decide +kernel, by decide +kernel⟩
theorem b_is_integer_ (g : G K mg) : Binds K g.d_is_integer ["value"] [] := g.F_is_integer.bindsN fun _ _ _ _ _ _ us hl => match us, hl with | [_], _ => rfl
theorem ok_is_integer (g : G K mg) : FnG (Ly w g) P w K mg base 1 g.a_is_integer g.d_is_integer ["value"] f_is_integer :=
  funOk g.F_is_integer sc_is_integer rfl rfl mdF_ok mdD_okx fun cdv hid A outer s H E hr => by
    have sc := sc_is_integer
    exact (ss_one (ss_ret (sn_and (sn_isi rfl g.n_isinstance rfl g.n_int (sv 0)) (sn_one (sn_not (sn_isi rfl g.n_isinstance rfl g.n_bool (sv 0)))))))
theorem sc_is_between : FnScope (["value", "low", "high"] : List Str) ["value", "low", "high"] (defScope (top 4)) := ⟨rfl, rfl, rfl, by decide +kernel, rfl, by decide +kernel, by decide +kernel⟩
theorem b_is_between_ (g : G K mg) : Binds K g.d_is_between ["value", "low", "high"] [] := g.F_is_between.bindsN fun _ _ _ _ _ _ us hl => match us, hl with | [_, _, _], _ => rfl
theorem ok_is_between (g : G K mg) : FnG (Ly w g) P w K mg base 2 g.a_is_between g.d_is_between ["value", "low", "high"] f_is_between :=
  funOk g.F_is_between sc_is_between rfl rfl mdF_ok mdD_okx fun cdv hid A outer s H E hr => by
    have sc := sc_is_between
    exact (ss_one (ss_ret (sn_and (sn_call (ok_is_integer g) (hr.mono (by decide)) (takes_of rfl rfl rfl rfl) rfl g.g_is_integer g.F_is_integer.kp (b_is_integer_ g) (sa_cons (sv 0) sa_nil)) (sn_one (sn_chain op_leM op_leM (sv 1) (sv 0) (sv 2))))))
theorem sc_are_endless_sizes : FnScope (["value", "size"] : List Str) ["value"] (defScope (top 14)) := ⟨rfl, rfl, rfl, by decide +kernel, rfl, by decide +kernel, by decide +kernel⟩
theorem b_are_endless_sizes_ (g : G K mg) : Binds K g.d_are_endless_sizes ["value"] [] := g.F_are_endless_sizes.bindsN fun _ _ _ _ _ _ us hl => match us, hl with | [_], _ => rfl
theorem ok_are_endless_sizes (g : G K mg) : FnG (Ly w g) P w K mg base 3 g.a_are_endless_sizes g.d_are_endless_sizes ["value"] f_are_endless_sizes :=
  funOk g.F_are_endless_sizes sc_are_endless_sizes rfl rfl mdF_ok mdD_okx fun cdv hid A outer s H E hr => by
    have sc := sc_are_endless_sizes
    exact (ss_cons (ss_if (sw_st (sw_or (st_not (st_val (sn_isi rfl g.n_isinstance rfl g.n_tuple (sv 0)))) (sw_or1 (st_not (st_chain op_leM op_leM sn_int (sn_B call_lenM rfl g.n_len (sa_cons (sv 0) sa_nil)) sn_int))))) (ss_one (ss_ret sn_bl)) ss_nil)
    (ss_one (ss_ret (sn_B (call_allM rfl) rfl g.n_all (sa_cons (sn_lc (own := [("size", 1)]) rfl sc.nd (si_seq (sv 0)) rfl (fun _ _ _ _ _ _ => (sgo_name sc.nd)) (fun _ _ _ _ _ _ => sts_nil) (fun _ _ _ _ _ _ => (sn_call (ok_is_between g) (hr.mono (by decide)) takes_no rfl g.g_is_between g.F_is_between.kp (b_is_between_ g) (sa_cons (sv 1) (sa_cons sn_int (sa_cons (sn_gint rfl g.i_GREATEST_SIZE) sa_nil)))))) sa_nil)))))
theorem sc_is_job_in : FnScope (["sizes", "value"] : List Str) ["sizes", "value"] (defScope (top 6)) := ⟨rfl, rfl, rfl, by decide +kernel, rfl, by decide +kernel, by decide +kernel⟩
theorem b_is_job_in_ (g : G K mg) : Binds K g.d_is_job_in ["sizes", "value"] [] := g.F_is_job_in.bindsN fun _ _ _ _ _ _ us hl => match us, hl with | [_, _], _ => rfl
theorem ok_is_job_in (g : G K mg) : FnG (Ly w g) P w K mg base 3 g.a_is_job_in g.d_is_job_in ["sizes", "value"] f_is_job_in :=
  funOk g.F_is_job_in sc_is_job_in rfl rfl mdF_ok mdD_okx fun cdv hid A outer s H E hr => by
    have sc := sc_is_job_in
    exact (ss_cons (ss_if (sw_st (sw_or (st_not (st_val (sn_isi rfl g.n_isinstance rfl g.n_tuple (sv 1)))) (sw_or (st_cmp (op_neM hr.un) (sn_B call_lenM rfl g.n_len (sa_cons (sv 1) sa_nil)) sn_int rfl) (sw_or1 (st_not (st_val (sn_call (ok_is_between g) (hr.mono (by decide)) (takes_of rfl rfl rfl rfl) rfl g.g_is_between g.F_is_between.kp (b_is_between_ g) (sa_cons (sn_ix (sv 1) sn_int) (sa_cons sn_int (sa_cons (sn_bin op_subM (sn_B call_lenM rfl g.n_len (sa_cons (sv 0) sa_nil)) sn_int) sa_nil)))))))))) (ss_one (ss_ret sn_bl)) ss_nil)
    (ss_one (ss_ret (sn_call (ok_is_between g) (hr.mono (by decide)) (takes_of rfl rfl rfl rfl) rfl g.g_is_between g.F_is_between.kp (b_is_between_ g) (sa_cons (sn_ix (sv 1) sn_int) (sa_cons sn_int (sa_cons (sn_bin op_subM (sn_ix (sv 0) (sn_ix (sv 1) sn_int)) sn_int) sa_nil)))))))
theorem sc_is_linked_wait : FnScope (["sizes", "value"] : List Str) ["sizes", "value"] (defScope (top 15)) := ⟨rfl, rfl, rfl, by decide +kernel, rfl, by decide +kernel, by decide +kernel⟩
theorem b_is_linked_wait_ (g : G K mg) : Binds K g.d_is_linked_wait ["sizes", "value"] [] := g.F_is_linked_wait.bindsN fun _ _ _ _ _ _ us hl => match us, hl with | [_, _], _ => rfl
theorem ok_is_linked_wait (g : G K mg) : FnG (Ly w g) P w K mg base 4 g.a_is_linked_wait g.d_is_linked_wait ["sizes", "value"] f_is_linked_wait :=
  funOk g.F_is_linked_wait sc_is_linked_wait rfl rfl mdF_ok mdD_okx fun cdv hid A outer s H E hr => by
    have sc := sc_is_linked_wait
    exact (ss_cons (ss_if (sw_st (sw_or (st_not (st_val (sn_isi rfl g.n_isinstance rfl g.n_tuple (sv 1)))) (sw_or (st_cmp (op_neM hr.un) (sn_B call_lenM rfl g.n_len (sa_cons (sv 1) sa_nil)) sn_int rfl) (sw_or1 (st_not (st_val (sn_call (ok_is_job_in g) (hr.mono (by decide)) (takes_of rfl rfl rfl rfl) rfl g.g_is_job_in g.F_is_job_in.kp (b_is_job_in_ g) (sa_cons (sv 0) (sa_cons (sn_ix (sv 1) sn_int) sa_nil))))))))) (ss_one (ss_ret sn_bl)) ss_nil)
    (ss_cons (ss_if (sw_st (sw_or (st_not (st_val (sn_call (ok_is_job_in g) (hr.mono (by decide)) (takes_of rfl rfl rfl rfl) rfl g.g_is_job_in g.F_is_job_in.kp (b_is_job_in_ g) (sa_cons (sv 0) (sa_cons (sn_ix (sv 1) sn_int) sa_nil))))) (sw_or1 (st_cmp (op_eqM hr.un) (sn_ix (sn_ix (sv 1) sn_int) sn_int) (sn_ix (sn_ix (sv 1) sn_int) sn_int) rfl)))) (ss_one (ss_ret sn_bl)) ss_nil)
    (ss_one (ss_ret (sn_call (ok_is_between g) (hr.mono (by decide)) (takes_of rfl rfl rfl rfl) rfl g.g_is_between g.F_is_between.kp (b_is_between_ g) (sa_cons (sn_ix (sv 1) sn_int) (sa_cons sn_int (sa_cons (sn_gint rfl g.i_GREATEST_DISTANCE) sa_nil))))))))
theorem sc_is_endless_plan : FnScope (["value", "wait"] : List Str) ["value"] (defScope (top 16)) := ⟨rfl, rfl, rfl, by decide +kernel, rfl, by decide +kernel, by decide +kernel⟩
theorem b_is_endless_plan_ (g : G K mg) : Binds K g.d_is_endless_plan ["value"] [] := g.F_is_endless_plan.bindsN fun _ _ _ _ _ _ us hl => match us, hl with | [_], _ => rfl
theorem ok_is_endless_plan (g : G K mg) : FnG (Ly w g) P w K mg base 5 g.a_is_endless_plan g.d_is_endless_plan ["value"] f_is_endless_plan :=
  funOk g.F_is_endless_plan sc_is_endless_plan rfl rfl mdF_ok mdD_okx fun cdv hid A outer s H E hr => by
    have sc := sc_is_endless_plan
    exact (ss_cons (ss_if (sw_st (sw_or (st_not (st_val (sn_isi rfl g.n_isinstance rfl g.n_tuple (sv 0)))) (sw_or (st_cmp (op_neM hr.un) (sn_B call_lenM rfl g.n_len (sa_cons (sv 0) sa_nil)) sn_int rfl) (sw_or1 (st_not (st_val (sn_call (ok_are_endless_sizes g) (hr.mono (by decide)) (takes_of rfl rfl rfl rfl) rfl g.g_are_endless_sizes g.F_are_endless_sizes.kp (b_are_endless_sizes_ g) (sa_cons (sn_ix (sv 0) sn_int) sa_nil)))))))) (ss_one (ss_ret sn_bl)) ss_nil)
    (ss_cons (ss_if (sw_st (sw_or (st_not (st_val (sn_isi rfl g.n_isinstance rfl g.n_tuple (sn_ix (sv 0) sn_int)))) (sw_or1 (st_cmp op_gtM (sn_B call_lenM rfl g.n_len (sa_cons (sn_ix (sv 0) sn_int) sa_nil)) (sn_gint rfl g.i_MOST_LINKED) rfl)))) (ss_one (ss_ret sn_bl)) ss_nil)
    (ss_one (ss_ret (sn_and (sn_B (call_allM rfl) rfl g.n_all (sa_cons (sn_lc (own := [("wait", 1)]) rfl sc.nd (si_seq (sn_ix (sv 0) sn_int)) rfl (fun _ _ _ _ _ _ => (sgo_name sc.nd)) (fun _ _ _ _ _ _ => sts_nil) (fun _ _ _ _ _ _ => (sn_call (ok_is_linked_wait g) (hr.mono (by decide)) takes_no rfl g.g_is_linked_wait g.F_is_linked_wait.kp (b_is_linked_wait_ g) (sa_cons (sn_ix (sv 0) sn_int) (sa_cons (sv 1) sa_nil))))) sa_nil)) (sn_one (sn_call (ok_is_ascending g) (hr.mono (by decide)) (takes_of rfl rfl rfl rfl) rfl g.g_is_ascending g.F_is_ascending.kp (b_is_ascending_ g) (sa_cons (sn_ix (sv 0) sn_int) sa_nil))))))))
theorem sc_require_endless : FnScope (["value"] : List Str) ["value"] (defScope (top 18)) := ⟨rfl, rfl, rfl, by decide +kernel, rfl, by decide +kernel, by decide +kernel⟩
theorem b_require_endless_ (g : G K mg) : Binds K g.d_require_endless ["value"] [] := g.F_require_endless.bindsN fun _ _ _ _ _ _ us hl => match us, hl with | [_], _ => rfl
theorem ok_require_endless (g : G K mg) : FnG (Ly w g) P w K mg base 6 g.a_require_endless g.d_require_endless ["value"] f_require_endless :=
  funOk g.F_require_endless sc_require_endless rfl rfl mdF_ok mdD_okx fun cdv hid A outer s H E hr => by
    have sc := sc_require_endless
    exact (ss_one (ss_if (st_not (st_val (sn_call (ok_is_endless_plan g) (hr.mono (by decide)) (takes_of rfl rfl rfl rfl) rfl g.g_is_endless_plan g.F_is_endless_plan.kp (b_is_endless_plan_ g) (sa_cons (sv 0) sa_nil)))) (ss_one ss_no) ss_nil))
theorem sc_find_links : FnScope (["plan", "found", "queue", "size", "place"] : List Str) ["plan"] (defScope (top 17)) := ⟨rfl, rfl, rfl, by decide +kernel, rfl, by decide +kernel, by decide +kernel⟩
theorem b_find_links_ (g : G K mg) : Binds K g.d_find_links ["plan"] [] := g.F_find_links.bindsN fun _ _ _ _ _ _ us hl => match us, hl with | [_], _ => rfl
theorem ok_find_links (g : G K mg) : FnG (Ly w g) P w K mg base 1 g.a_find_links g.d_find_links ["plan"] f_find_links :=
  funOk g.F_find_links sc_find_links rfl rfl mdC_ok mdD_okx fun cdv hid A outer s H E hr => by
    have sc := sc_find_links
    exact (ss_cons (ss_set sc.nd (sn_T call_listMC rfl g.n_list (sa_cons (sn_ix (sv 0) sn_int) sa_nil)))
    (ss_cons (ss_for (passes_of rfl) rfl (si_enum rfl g.n_enumerate (sa_cons (sn_ix (sv 0) sn_int) sa_nil)) (sg_tup rfl (sgs_cons (sg_name sc.nd) (sgs_cons (sg_name sc.nd) sgs_nil))) (ss_cons (ss_expr (sn_mt F.slot_list_extend F.type_list_extend mt_extendM (sv 1) (sa_cons (sn_lc (own := [("place", 4)]) rfl sc.nd (si_rng1 rfl g.n_range (sa_cons (sn_bin op_subM (sv 3) sn_int) sa_nil)) rfl (fun _ _ _ _ _ _ => (sgo_name sc.nd)) (fun _ _ _ _ _ _ => sts_nil) (fun _ _ _ _ _ _ => (sn_tup (sa_cons (sn_tup (sa_cons (sv 2) (sa_cons (sv 4) sa_nil))) (sa_cons (sn_tup (sa_cons (sv 2) (sa_cons (sn_bin op_plusM (sv 4) sn_int) sa_nil))) (sa_cons sn_int sa_nil)))))) sa_nil)))
    (ss_one (ss_expr (sn_mt F.slot_list_append F.type_list_append mt_appendM (sv 1) (sa_cons (sn_tup (sa_cons (sn_tup (sa_cons (sv 2) (sa_cons (sn_bin op_subM (sv 3) sn_int) sa_nil))) (sa_cons (sn_tup (sa_cons (sv 2) (sa_cons sn_int sa_nil))) (sa_cons sn_int sa_nil)))) sa_nil))))))
    (ss_one (ss_ret (sn_B (call_sortMC hr.un) rfl g.n_sorted (sa_cons (sv 1) sa_nil))))))
theorem sc_links_of : FnScope (["plan"] : List Str) ["plan"] (defScope (top 20)) := ⟨rfl, rfl, rfl, by decide +kernel, rfl, by decide +kernel, by decide +kernel⟩
theorem b_links_of_ (g : G K mg) : Binds K g.d_links_of ["plan"] [] := g.F_links_of.bindsN fun _ _ _ _ _ _ us hl => match us, hl with | [_], _ => rfl
theorem ok_links_of (g : G K mg) : FnG (Ly w g) P w K mg base 7 g.a_links_of g.d_links_of ["plan"] f_links_of :=
  funOk g.F_links_of sc_links_of rfl rfl mdC_ok mdD_okx fun cdv hid A outer s H E hr => by
    have sc := sc_links_of
    exact (ss_cons (ss_expr (sn_call (ok_require_endless g) (hr.mono (by decide)) (takes_of rfl rfl rfl rfl) rfl g.g_require_endless g.F_require_endless.kp (b_require_endless_ g) (sa_cons (sv 0) sa_nil)))
    (ss_one (ss_ret (sn_call (ok_find_links g) (hr.mono (by decide)) (takes_of rfl rfl rfl rfl) rfl g.g_find_links g.F_find_links.kp (b_find_links_ g) (sa_cons (sv 0) sa_nil)))))
theorem sc_is_endless : FnScope (["value"] : List Str) ["value"] (defScope (top 19)) := ⟨rfl, rfl, rfl, by decide +kernel, rfl, by decide +kernel, by decide +kernel⟩
theorem b_is_endless_ (g : G K mg) : Binds K g.d_is_endless ["value"] [] := g.F_is_endless.bindsN fun _ _ _ _ _ _ us hl => match us, hl with | [_], _ => rfl
theorem ok_is_endless (g : G K mg) : FnG (Ly w g) P w K mg base 6 g.a_is_endless g.d_is_endless ["value"] f_is_endless :=
  funOk g.F_is_endless sc_is_endless rfl rfl mdF_ok mdD_okx fun cdv hid A outer s H E hr => by
    have sc := sc_is_endless
    exact (ss_one (ss_ret (sn_call (ok_is_endless_plan g) (hr.mono (by decide)) (takes_of rfl rfl rfl rfl) rfl g.g_is_endless_plan g.F_is_endless_plan.kp (b_is_endless_plan_ g) (sa_cons (sv 0) sa_nil))))
theorem sc_law : FnScope (["script", "pen", "turn", "sizes", "drawn", "plan", "many", "k", "some", "value", "step", "kept", "due", "told", "distance", "wait"] : List Str) ["script"] (defScope (top 36)) := ⟨rfl, rfl, rfl, by decide +kernel, rfl, by decide +kernel, by decide +kernel⟩
theorem b_law_ (g : G K mg) : Binds K g.d_law ["script"] [] := g.F_law.bindsN fun _ _ _ _ _ _ us hl => match us, hl with | [_], _ => rfl
theorem ok_law (g : G K mg) : FnG (Ly w g) P w K mg base 11 g.a_law g.d_law ["script"] f_law :=
  funOk g.F_law sc_law rfl rfl mdF_ok mdD_okx fun cdv hid A outer s H E hr => by
    have sc := sc_law
    exact (ss_cons (ss_set sc.nd (sn_call (ok__law_open g) (hr.mono (by decide)) (takes_of rfl rfl rfl rfl) rfl g.g__law_open g.F__law_open.kp (b__law_open_ g) (sa_cons (sv 0) sa_nil)))
    (ss_cons (ss_for (passes_of rfl) rfl (si_rng1 rfl g.n_range (sa_cons sn_int sa_nil)) (sg_name sc.nd) (ss_cons (ss_set sc.nd (sn_ix (sn_call (ok__law_drawn_plan g) (hr.mono (by decide)) (takes_of rfl rfl rfl rfl) rfl g.g__law_drawn_plan g.F__law_drawn_plan.kp (b__law_drawn_plan_ g) (sa_cons (sn_call (ok__law_anew g) (hr.mono (by decide)) (takes_of rfl rfl rfl rfl) rfl g.g__law_anew g.F__law_anew.kp (b__law_anew_ g) (sa_cons (sv 1) sa_nil)) (sa_cons sn_int sa_nil))) sn_int))
    (ss_cons (ss_lc (own := [("step", 10)]) rfl sc.nd rfl (sw_true rfl rfl rfl rfl) (si_rng1 rfl g.n_range (sa_cons (sn_call (ok__law_take g) (hr.mono (by decide)) (takes_of rfl rfl rfl rfl) rfl g.g__law_take g.F__law_take.kp (b__law_take_ g) (sa_cons (sv 1) (sa_cons sn_int sa_nil))) sa_nil)) rfl (fun _ _ _ _ _ _ => (sgo_name sc.nd)) (fun _ _ _ _ _ _ => sts_nil) (fun _ _ _ _ _ _ => (sn_call (ok__law_drawn_wait g) (hr.mono (by decide)) takes_no rfl g.g__law_drawn_wait g.F__law_drawn_wait.kp (b__law_drawn_wait_ g) (sa_cons (sn_call (ok__law_anew g) (hr.mono (by decide)) takes_no rfl g.g__law_anew g.F__law_anew.kp (b__law_anew_ g) (sa_cons (sv 1) sa_nil)) (sa_cons (sv 3) sa_nil)))))
    (ss_cons (ss_set sc.nd (sn_tup (sa_cons (sv 3) (sa_cons (sn_T call_tupleM rfl g.n_tuple (sa_cons (sn_sl sl_M (sn_B (call_sortSetM rfl hr.un rfl) rfl g.n_sorted (sa_cons (sn_T (call_setM rfl hr.un rfl) rfl g.n_set (sa_cons (sn_lc (own := [("wait", 15)]) rfl sc.nd (si_seq (sv 4)) rfl (fun _ _ _ _ _ _ => (sgo_name sc.nd)) (fun _ _ _ _ _ _ => (sts_one (st_cmp op_isNotM (sv 15) sn_non rfl))) (fun _ _ _ _ _ _ => (sv 15))) sa_nil)) sa_nil)) so_no (so_at sn_int)) sa_nil)) sa_nil))))
    (ss_cons (ss_set sc.nd (sn_tup sa_nil))
    (ss_cons (ss_for (passes_of rfl) rfl (si_rng1 rfl g.n_range (sa_cons sn_int sa_nil)) (sg_name sc.nd) (ss_one (ss_set sc.nd (sn_bin op_plusM (sv 6) (sn_T call_tupleM rfl g.n_tuple (sa_cons (sn_lc (own := [("distance", 14)]) rfl sc.nd (si_rng1 rfl g.n_range (sa_cons sn_int sa_nil)) rfl (fun _ _ _ _ _ _ => (sgo_name sc.nd)) (fun _ _ _ _ _ _ => sts_nil) (fun _ _ _ _ _ _ => (sn_tup (sa_cons (sn_tup (sa_cons sn_int (sa_cons (sv 7) sa_nil))) (sa_cons (sn_tup (sa_cons sn_int (sa_cons (sv 7) sa_nil))) (sa_cons (sv 14) sa_nil)))))) sa_nil))))))
    (ss_cons (ss_set sc.nd (sn_lst (sa_cons (sv 5) (sa_cons (sn_tup (sa_cons (sn_ix (sv 5) sn_int) (sa_cons (sn_bin op_mulM2 (sn_sl sl_M (sn_ix (sv 5) sn_int) so_no (so_at sn_int)) sn_int) sa_nil))) (sa_cons (sn_tup (sa_cons (sn_tup (sa_cons sn_int (sa_cons sn_int sa_nil))) (sa_cons (sn_sl sl_M (sv 6) so_no (so_at sn_int)) sa_nil))) (sa_cons (sn_tup (sa_cons (sn_tup (sa_cons sn_int (sa_cons sn_int sa_nil))) (sa_cons (sn_sl sl_M (sv 6) so_no (so_at sn_int)) sa_nil))) (sa_cons (sn_tup (sa_cons (sn_bin op_mulM2 (sn_tup (sa_cons sn_int sa_nil)) sn_int) (sa_cons (sn_tup sa_nil) sa_nil))) (sa_cons (sn_tup (sa_cons (sn_tup (sa_cons sn_int sa_nil)) (sa_cons (sn_tup sa_nil) sa_nil))) sa_nil))))))))
    (ss_cons (ss_set sc.nd (sn_bin op_plusM (sv 8) (sn_lst (sa_cons (sn_tup (sa_cons (sn_bin op_mulM2 (sn_tup (sa_cons sn_int sa_nil)) sn_int) (sa_cons (sn_tup sa_nil) sa_nil))) (sa_cons (sn_tup (sa_cons (sn_tup sa_nil) (sa_cons (sn_tup sa_nil) sa_nil))) (sa_cons (sn_tup (sa_cons (sn_tup (sa_cons sn_int sa_nil)) (sa_cons (sn_tup sa_nil) sa_nil))) (sa_cons (sn_tup (sa_cons (sn_tup (sa_cons sn_int sa_nil)) (sa_cons (sn_tup sa_nil) sa_nil))) (sa_cons (sn_tup (sa_cons (sn_tup (sa_cons sn_int (sa_cons sn_int sa_nil))) (sa_cons (sn_tup (sa_cons (sn_tup (sa_cons (sn_tup (sa_cons sn_int (sa_cons sn_int sa_nil))) (sa_cons (sn_tup (sa_cons sn_int (sa_cons sn_int sa_nil))) (sa_cons sn_int sa_nil)))) sa_nil)) sa_nil))) sa_nil))))))))
    (ss_cons (ss_set sc.nd (sn_bin op_plusM (sv 8) (sn_lc (own := [("step", 10)]) rfl sc.nd (si_rng1 rfl g.n_range (sa_cons sn_int sa_nil)) rfl (fun _ _ _ _ _ _ => (sgo_name sc.nd)) (fun _ _ _ _ _ _ => sts_nil) (fun _ _ _ _ _ _ => (sn_call (ok__law_bent g 6) (hr.mono (by decide)) takes_no rfl g.g__law_bent g.F__law_bent.kp (b__law_bent_ g) (sa_cons (sn_call (ok__law_anew g) (hr.mono (by decide)) takes_no rfl g.g__law_anew g.F__law_anew.kp (b__law_anew_ g) (sa_cons (sv 1) sa_nil)) (sa_cons (sv 5) sa_nil)))))))
    (ss_one (ss_for (passes_of rfl) rfl (si_seq (sv 8)) (sg_name sc.nd) (ss_cons (ss_par sc.nd (sa_cons (sn_B (call_reprM hr.gd hr.un) rfl g.n_repr (sa_cons (sv 9) sa_nil)) (sa_cons (sn_call (ok__law_is_plan g) (hr.mono (by decide)) (takes_of rfl rfl rfl rfl) rfl g.g__law_is_plan g.F__law_is_plan.kp (b__law_is_plan_ g) (sa_cons (sv 9) sa_nil)) sa_nil)))
    (ss_cons (ss_if (sw_st (sw_or (st_cmp (op_neM hr.un) (sn_B (call_reprM hr.gd hr.un) rfl g.n_repr (sa_cons (sn_call (ok_is_endless g) (hr.mono (by decide)) (takes_of rfl rfl rfl rfl) rfl g.g_is_endless g.F_is_endless.kp (b_is_endless_ g) (sa_cons (sv 9) sa_nil)) sa_nil)) (sn_B (call_reprM hr.gd hr.un) rfl g.n_repr (sa_cons (sv 12) sa_nil)) rfl) (sw_or1 (st_cmp (op_neM hr.un) (sn_B (call_reprM hr.gd hr.un) rfl g.n_repr (sa_cons (sv 9) sa_nil)) (sv 11) rfl)))) (ss_one (ss_ret sn_bl)) ss_nil)
    (ss_one (ss_if (st_val (sv 12)) (ss_cons (ss_set sc.nd (sn_call (ok_links_of g) (hr.mono (by decide)) (takes_of rfl rfl rfl rfl) rfl g.g_links_of g.F_links_of.kp (b_links_of_ g) (sa_cons (sv 9) sa_nil)))
    (ss_cons (ss_if (st_cmp (op_neM hr.un) (sn_B (call_reprM hr.gd hr.un) rfl g.n_repr (sa_cons (sv 13) sa_nil)) (sn_B (call_reprM hr.gd hr.un) rfl g.n_repr (sa_cons (sn_call (ok__law_all_ties g) (hr.mono (by decide)) (takes_of rfl rfl rfl rfl) rfl g.g__law_all_ties g.F__law_all_ties.kp (b__law_all_ties_ g) (sa_cons (sv 9) sa_nil)) sa_nil)) rfl) (ss_one (ss_ret sn_bl)) ss_nil)
    (ss_cons (ss_expr (sn_mt F.slot_list_append F.type_list_append mt_appendM (sv 13) (sa_cons sn_non sa_nil)))
    (ss_one (ss_if (st_cmp (op_neM hr.un) (sn_B (call_reprM hr.gd hr.un) rfl g.n_repr (sa_cons (sn_call (ok_links_of g) (hr.mono (by decide)) (takes_of rfl rfl rfl rfl) rfl g.g_links_of g.F_links_of.kp (b_links_of_ g) (sa_cons (sv 9) sa_nil)) sa_nil)) (sn_B (call_reprM hr.gd hr.un) rfl g.n_repr (sa_cons (sn_call (ok__law_all_ties g) (hr.mono (by decide)) (takes_of rfl rfl rfl rfl) rfl g.g__law_all_ties g.F__law_all_ties.kp (b__law_all_ties_ g) (sa_cons (sv 9) sa_nil)) sa_nil)) rfl) (ss_one (ss_ret sn_bl)) ss_nil))))) ss_nil)))))))))))))))
    (ss_one (ss_ret sn_bl))))
end
end Lw
namespace Lw
open PySem PySem.Spec PyProof.Rows L2 Mini
abbrev prs : List Int := [2147483629, 2147483587, 2147483579, 2147483563, 2147483549, 2147483543, 2147483497, 2147483489, 2147483477, 2147483423, 2147483399, 2147483353, 2147483323]
theorem prs_bd : ∀ p ∈ prs, 0 < p ∧ p < 2147483648 := by decide
theorem pr_at (i : Int) : ∃ p, (0 < p ∧ p < 2147483648) ∧ atI (prs.map MV.int) (i.fmod 13) = some (.int p) := by
  have b := fmod_bd (i := i) (j := 13) (by decide)
  obtain ⟨p, hp, e⟩ := atI_int (ps := prs) b.1 b.2
  exact ⟨p, prs_bd p hp, e⟩
theorem spread_ok {cell at_ : Int} (h1 : 0 ≤ at_) (h2 : at_ < 2 ^ 30) {h : MHp} {Q E : MQ} (k : ∀ v : Int, mdF h.length Q (.int v) h) : f__law_spread [.int cell, .int at_] h Q E := by
  simp only [f__law_spread, b__law_spread, getK, setK, Option.isSome_some, eqM_int, neM_int, kit_ii, kit_bi, kit_ni, kit_si, kit_ti, kit_li, kit_ib, kit_bb, kit_tt, kit_it, kit_bt, kit_nt, kit_st, kit_lt, atI0, atI1, atI2, ixN30, ixN31, ixN32, mFn, startM, mSeq, mIf, mAsg, mRet, mRetN, mDrop, mNext, gN, gT, gsCons, gsNil, gIx, mVar, mInt, mBl, mNon, mStr, mC, mOp1, mOp2, int2, plusM, addM, mulM2, negM, isM, isNotM, isNoneM, tV, tNo, tAn, Mini.tOr, mAnd, mOr, mNot, Mini.notM, Bool.not_false, Bool.not_true, Bool.false_eq_true, if_false, if_true, reduceIte, mIfE, aNil, aCons, mTup, mLst, mLstC, mSl, slM, pNo, pAt, mB, mCall, lenM, listM, listMC, tupleM, intM, boolM, ixM, ixV, seqOf, lstOf, Mini.cellOf, mPar, mPar3, mLc, mLcC, mFor, iSeq, Mini.iRng1, Mini.iRng2, Mini.iEnum, Mini.iZip, mIsi, isiM, tyM, mMt, mMt0, appendM, extendM, popM, catF, catF.lstM, mChain, tAll, wipeM, mdK, Prod.mk.injEq, and_assoc, List.map_cons, List.map_nil, List.length_cons, List.length_nil, List.replicate, List.cons_append, List.nil_append, List.getElem?_cons_zero, List.getElem?_cons_succ, List.set_cons_zero, List.set_cons_succ, Option.some.injEq, exists_eq_left', exists_eq_left, true_and, and_true, List.cons.injEq, MV.int.injEq, MV.bl.injEq, MV.tup.injEq, MV.fl.injEq, MV.str.injEq, MV.ref.injEq, Option.bind_some, exists_and_left, exists_const, Nat.sub_self, Nat.reduceSub, Nat.reduceAdd, List.append_nil, List.nil_append, List.length_map, Nat.add_zero, Nat.zero_add]
  refine ⟨cpow (by decide) (by decide) (by decide) (by decide), ?_⟩
  split
  · exact k _
  have b0 := fmod_bd (i := cell) (j := 1000000007) (by decide)
  have b1 := mul_bd b0.1 (Int.le_of_lt b0.2) (b := 2 * at_ + 69069) (B := 2147552717) (by omega) (by omega)
  refine ⟨smallLine (by decide), smallLine (by decide), smallLine (by decide), by decide, cmulL (by decide) (by decide), cmulL (by omega) (by omega), cmulL (by omega) (by omega), cpow (by omega) (by omega) (by decide) (by decide), by decide, ?_⟩
  obtain ⟨p1, hp1, e1⟩ := pr_at at_
  refine ⟨_, e1, modM_ps hp1.1 ?_⟩
  generalize hone : ((cell.fmod 1000000007 * (2 * at_ + 69069) + at_ * 40503 + 977) ^ Int.toNat 3).fmod p1 = one
  have c1 : 0 ≤ one ∧ one < 2147483648 := by
    have b := fmod_bd (i := (cell.fmod 1000000007 * (2 * at_ + 69069) + at_ * 40503 + 977) ^ Int.toNat 3) hp1.1
    rw [hone] at b
    omega
  have b2 := fmod_bd (i := cell) (j := 65537) (by decide)
  have b3 := mul_bd c1.1 (Int.le_of_lt c1.2) (b := at_ + 3) (B := 1073741827) (by omega) (by omega)
  refine ⟨by decide, cmulL (by omega) (by omega), cpow (by omega) (by omega) (by decide) (by decide), by decide, ?_⟩
  obtain ⟨p2, hp2, e2⟩ := pr_at (at_ + 5)
  refine ⟨_, e2, modM_ps hp2.1 ?_⟩
  generalize htwo : ((one * (at_ + 3) + (cell.fmod 65537 + 5)) ^ Int.toNat 5).fmod p2 = two
  have c2 : 0 ≤ two ∧ two < 2147483648 := by
    have b := fmod_bd (i := (one * (at_ + 3) + (cell.fmod 65537 + 5)) ^ Int.toNat 5) hp2.1
    rw [htwo] at b
    omega
  simp only [getK, setK, Option.isSome_some, eqM_int, neM_int, kit_ii, kit_bi, kit_ni, kit_si, kit_ti, kit_li, kit_ib, kit_bb, kit_tt, kit_it, kit_bt, kit_nt, kit_st, kit_lt, atI0, atI1, atI2, ixN30, ixN31, ixN32, mFn, startM, mSeq, mIf, mAsg, mRet, mRetN, mDrop, mNext, gN, gT, gsCons, gsNil, gIx, mVar, mInt, mBl, mNon, mStr, mC, mOp1, mOp2, int2, plusM, addM, mulM2, negM, isM, isNotM, isNoneM, tV, tNo, tAn, Mini.tOr, mAnd, mOr, mNot, Mini.notM, Bool.not_false, Bool.not_true, Bool.false_eq_true, if_false, if_true, reduceIte, mIfE, aNil, aCons, mTup, mLst, mLstC, mSl, slM, pNo, pAt, mB, mCall, lenM, listM, listMC, tupleM, intM, boolM, ixM, ixV, seqOf, lstOf, Mini.cellOf, mPar, mPar3, mLc, mLcC, mFor, iSeq, Mini.iRng1, Mini.iRng2, Mini.iEnum, Mini.iZip, mIsi, isiM, tyM, mMt, mMt0, appendM, extendM, popM, catF, catF.lstM, mChain, tAll, wipeM, mdK, Prod.mk.injEq, and_assoc, List.map_cons, List.map_nil, List.length_cons, List.length_nil, List.replicate, List.cons_append, List.nil_append, List.getElem?_cons_zero, List.getElem?_cons_succ, List.set_cons_zero, List.set_cons_succ, Option.some.injEq, exists_eq_left', exists_eq_left, true_and, and_true, List.cons.injEq, MV.int.injEq, MV.bl.injEq, MV.tup.injEq, MV.fl.injEq, MV.str.injEq, MV.ref.injEq, Option.bind_some, exists_and_left, exists_const, Nat.sub_self, Nat.reduceSub, Nat.reduceAdd, List.append_nil, List.nil_append, List.length_map, Nat.add_zero, Nat.zero_add]
  have b4 := fmod_bd (i := one) (j := 1009) (by decide)
  refine ⟨by decide, cpow (by omega) (by omega) (by decide) (by decide), by decide, ?_⟩
  obtain ⟨p3, hp3, e3⟩ := pr_at (at_ + 7)
  refine ⟨_, e3, modM_ps hp3.1 ?_⟩
  exact ⟨cmulR (by decide) (by decide), cmulR (by decide) (by decide), k _⟩
/-! ### the pen: its cells at 0, itself at 1, what else there is behind -/
abbrev pen (cs : List Int) (a v : Int) (t : MHp) : MHp := .lst (cs.map .int) :: .lst [.ref 0, .int a, .int v] :: t
def TOk (t : MHp) : Prop := ∀ c ∈ t, ∀ n, c.lo n = true
theorem lo_ints (n : Nat) : ∀ cs : List Int, loAll n (cs.map MV.int) = true
  | [] => rfl
  | c :: cs => by
    rw [List.map_cons]
    simp only [loAll, MV.lo, Bool.true_and]
    exact lo_ints n cs
theorem pen_ok {t : MHp} (ht : TOk t) (cs : List Int) (a v : Int) : oldOk (t.length + 2) (pen cs a v t) = true := by
  unfold oldOk
  rw [List.take_of_length_le (show (pen cs a v t).length ≤ t.length + 2 from Nat.le_refl _), List.all_eq_true]
  intro c hc
  rcases List.mem_cons.mp hc with rfl | hc
  · exact lo_ints _ cs
  · rcases List.mem_cons.mp hc with rfl | hc
    · simp [Cell.lo, loAll, MV.lo]
    · exact ht c hc _
theorem pen_end {t : MHp} (ht : TOk t) {n : Nat} (hn : n = t.length + 2) {cs : List Int} {a v : Int} {Q : MQ} {x : MV} (hx : (frz n (pen cs a v t) 8 x).lo n = true) (q : Q (frz n (pen cs a v t) 8 x) (pen cs a v t)) : mdF n Q x (pen cs a v t) := by
  subst hn
  exact mdF_same rfl (pen_ok ht cs a v) hx q
theorem take_ok {cs : List Int} {a v many : Int} {t : MHp} (ht : TOk t) (ha : 0 ≤ a) (ha2 : a < 2 ^ 30) (hm : 0 < many) (hm2 : many < 2 ^ 30) {Q E : MQ} (k : ∀ r a' v', 0 ≤ r → r < many → a ≤ a' → a' ≤ a + 1 → Q (.int r) (pen cs a' v' t)) :
    f__law_take [.ref 1, .int many] (pen cs a v t) Q E := by
  simp only [f__law_take, b__law_take, getK, setK, Option.isSome_some, eqM_int, neM_int, kit_ii, kit_bi, kit_ni, kit_si, kit_ti, kit_li, kit_ib, kit_bb, kit_tt, kit_it, kit_bt, kit_nt, kit_st, kit_lt, atI0, atI1, atI2, ixN30, ixN31, ixN32, mFn, startM, mSeq, mIf, mAsg, mRet, mRetN, mDrop, mNext, gN, gT, gsCons, gsNil, gIx, mVar, mInt, mBl, mNon, mStr, mC, mOp1, mOp2, int2, plusM, addM, mulM2, negM, isM, isNotM, isNoneM, tV, tNo, tAn, Mini.tOr, mAnd, mOr, mNot, Mini.notM, Bool.not_false, Bool.not_true, Bool.false_eq_true, if_false, if_true, reduceIte, mIfE, aNil, aCons, mTup, mLst, mLstC, mSl, slM, pNo, pAt, mB, mCall, lenM, listM, listMC, tupleM, intM, boolM, ixM, ixV, seqOf, lstOf, Mini.cellOf, mPar, mPar3, mLc, mLcC, mFor, iSeq, Mini.iRng1, Mini.iRng2, Mini.iEnum, Mini.iZip, mIsi, isiM, tyM, mMt, mMt0, appendM, extendM, popM, catF, catF.lstM, mChain, tAll, wipeM, mdK, Prod.mk.injEq, and_assoc, List.map_cons, List.map_nil, List.length_cons, List.length_nil, List.replicate, List.cons_append, List.nil_append, List.getElem?_cons_zero, List.getElem?_cons_succ, List.set_cons_zero, List.set_cons_succ, Option.some.injEq, exists_eq_left', exists_eq_left, true_and, and_true, List.cons.injEq, MV.int.injEq, MV.bl.injEq, MV.tup.injEq, MV.fl.injEq, MV.str.injEq, MV.ref.injEq, Option.bind_some, exists_and_left, exists_const, Nat.sub_self, Nat.reduceSub, Nat.reduceAdd, List.append_nil, List.nil_append, List.length_map, Nat.add_zero, Nat.zero_add]
  have fin : ∀ a' v', a ≤ a' → a' ≤ a + 1 → CDivN v' many ∧ mdF (t.length + 1 + 1) Q (.int (v'.fmod many)) (pen cs a' (v'.fdiv many) t) := fun a' v' h1 h2 => by
    have b := fmod_bd (i := v') hm
    exact ⟨⟨by omega, by omega⟩, pen_end ht rfl rfl (k _ _ _ b.1 b.2 h1 h2)⟩
  have fin2 := fun v' => fin (a + 1) v' (by omega) (Int.le_refl _)
  split
  · split
    · rename_i h1 h2
      obtain ⟨x, e1, e2⟩ := atI_at (xs := cs.map MV.int) (i := a) ha (by simpa using h2)
      rw [List.getElem?_map, Option.map_eq_some_iff] at e2
      obtain ⟨c, hc, rfl⟩ := e2
      refine ⟨_, e1, spread_ok ha ha2 fun v' => pen_end ht rfl rfl ?_⟩
      simp only [frz, getK, setK, Option.isSome_some, eqM_int, neM_int, kit_ii, kit_bi, kit_ni, kit_si, kit_ti, kit_li, kit_ib, kit_bb, kit_tt, kit_it, kit_bt, kit_nt, kit_st, kit_lt, atI0, atI1, atI2, ixN30, ixN31, ixN32, mFn, startM, mSeq, mIf, mAsg, mRet, mRetN, mDrop, mNext, gN, gT, gsCons, gsNil, gIx, mVar, mInt, mBl, mNon, mStr, mC, mOp1, mOp2, int2, plusM, addM, mulM2, negM, isM, isNotM, isNoneM, tV, tNo, tAn, Mini.tOr, mAnd, mOr, mNot, Mini.notM, Bool.not_false, Bool.not_true, Bool.false_eq_true, if_false, if_true, reduceIte, mIfE, aNil, aCons, mTup, mLst, mLstC, mSl, slM, pNo, pAt, mB, mCall, lenM, listM, listMC, tupleM, intM, boolM, ixM, ixV, seqOf, lstOf, Mini.cellOf, mPar, mPar3, mLc, mLcC, mFor, iSeq, Mini.iRng1, Mini.iRng2, Mini.iEnum, Mini.iZip, mIsi, isiM, tyM, mMt, mMt0, appendM, extendM, popM, catF, catF.lstM, mChain, tAll, wipeM, mdK, Prod.mk.injEq, and_assoc, List.map_cons, List.map_nil, List.length_cons, List.length_nil, List.replicate, List.cons_append, List.nil_append, List.getElem?_cons_zero, List.getElem?_cons_succ, List.set_cons_zero, List.set_cons_succ, Option.some.injEq, exists_eq_left', exists_eq_left, true_and, and_true, List.cons.injEq, MV.int.injEq, MV.bl.injEq, MV.tup.injEq, MV.fl.injEq, MV.str.injEq, MV.ref.injEq, Option.bind_some, exists_and_left, exists_const, Nat.sub_self, Nat.reduceSub, Nat.reduceAdd, List.append_nil, List.nil_append, List.length_map, Nat.add_zero, Nat.zero_add]
      exact ⟨by omega, fin2 v'⟩
    · split
      · rename_i h1 h2 h3
        have hn : (0 : Int) < cs.length := by simpa using h3
        have b := fmod_bd (i := a * 5 + 3) hn
        obtain ⟨x, e1, e2⟩ := atI_at (xs := cs.map MV.int) b.1 (by simpa using b.2)
        rw [List.getElem?_map, Option.map_eq_some_iff] at e2
        obtain ⟨c, hc, rfl⟩ := e2
        refine ⟨cmulR (by decide) (by decide), by omega, _, e1, cpow (by decide) (by decide) (by decide) (by decide), ?_, spread_ok ha ha2 fun v' => pen_end ht rfl rfl ?_⟩
        · have : (10 : Int) ^ Int.toNat 17 = 100000000000000000 := by decide
          omega
        · simp only [frz, getK, setK, Option.isSome_some, eqM_int, neM_int, kit_ii, kit_bi, kit_ni, kit_si, kit_ti, kit_li, kit_ib, kit_bb, kit_tt, kit_it, kit_bt, kit_nt, kit_st, kit_lt, atI0, atI1, atI2, ixN30, ixN31, ixN32, mFn, startM, mSeq, mIf, mAsg, mRet, mRetN, mDrop, mNext, gN, gT, gsCons, gsNil, gIx, mVar, mInt, mBl, mNon, mStr, mC, mOp1, mOp2, int2, plusM, addM, mulM2, negM, isM, isNotM, isNoneM, tV, tNo, tAn, Mini.tOr, mAnd, mOr, mNot, Mini.notM, Bool.not_false, Bool.not_true, Bool.false_eq_true, if_false, if_true, reduceIte, mIfE, aNil, aCons, mTup, mLst, mLstC, mSl, slM, pNo, pAt, mB, mCall, lenM, listM, listMC, tupleM, intM, boolM, ixM, ixV, seqOf, lstOf, Mini.cellOf, mPar, mPar3, mLc, mLcC, mFor, iSeq, Mini.iRng1, Mini.iRng2, Mini.iEnum, Mini.iZip, mIsi, isiM, tyM, mMt, mMt0, appendM, extendM, popM, catF, catF.lstM, mChain, tAll, wipeM, mdK, Prod.mk.injEq, and_assoc, List.map_cons, List.map_nil, List.length_cons, List.length_nil, List.replicate, List.cons_append, List.nil_append, List.getElem?_cons_zero, List.getElem?_cons_succ, List.set_cons_zero, List.set_cons_succ, Option.some.injEq, exists_eq_left', exists_eq_left, true_and, and_true, List.cons.injEq, MV.int.injEq, MV.bl.injEq, MV.tup.injEq, MV.fl.injEq, MV.str.injEq, MV.ref.injEq, Option.bind_some, exists_and_left, exists_const, Nat.sub_self, Nat.reduceSub, Nat.reduceAdd, List.append_nil, List.nil_append, List.length_map, Nat.add_zero, Nat.zero_add]
          exact ⟨by omega, fin2 v'⟩
      · refine spread_ok ha ha2 fun v' => pen_end ht rfl rfl ?_
        simp only [frz, getK, setK, Option.isSome_some, eqM_int, neM_int, kit_ii, kit_bi, kit_ni, kit_si, kit_ti, kit_li, kit_ib, kit_bb, kit_tt, kit_it, kit_bt, kit_nt, kit_st, kit_lt, atI0, atI1, atI2, ixN30, ixN31, ixN32, mFn, startM, mSeq, mIf, mAsg, mRet, mRetN, mDrop, mNext, gN, gT, gsCons, gsNil, gIx, mVar, mInt, mBl, mNon, mStr, mC, mOp1, mOp2, int2, plusM, addM, mulM2, negM, isM, isNotM, isNoneM, tV, tNo, tAn, Mini.tOr, mAnd, mOr, mNot, Mini.notM, Bool.not_false, Bool.not_true, Bool.false_eq_true, if_false, if_true, reduceIte, mIfE, aNil, aCons, mTup, mLst, mLstC, mSl, slM, pNo, pAt, mB, mCall, lenM, listM, listMC, tupleM, intM, boolM, ixM, ixV, seqOf, lstOf, Mini.cellOf, mPar, mPar3, mLc, mLcC, mFor, iSeq, Mini.iRng1, Mini.iRng2, Mini.iEnum, Mini.iZip, mIsi, isiM, tyM, mMt, mMt0, appendM, extendM, popM, catF, catF.lstM, mChain, tAll, wipeM, mdK, Prod.mk.injEq, and_assoc, List.map_cons, List.map_nil, List.length_cons, List.length_nil, List.replicate, List.cons_append, List.nil_append, List.getElem?_cons_zero, List.getElem?_cons_succ, List.set_cons_zero, List.set_cons_succ, Option.some.injEq, exists_eq_left', exists_eq_left, true_and, and_true, List.cons.injEq, MV.int.injEq, MV.bl.injEq, MV.tup.injEq, MV.fl.injEq, MV.str.injEq, MV.ref.injEq, Option.bind_some, exists_and_left, exists_const, Nat.sub_self, Nat.reduceSub, Nat.reduceAdd, List.append_nil, List.nil_append, List.length_map, Nat.add_zero, Nat.zero_add]
        exact ⟨by omega, fin2 v'⟩
  · exact ⟨by omega, fin a v (Int.le_refl _) (by omega)⟩
theorem anew_ok {cs : List Int} {a v : Int} {t : MHp} (ht : TOk t) {Q E : MQ} (k : Q (.ref 1) (pen cs a 0 t)) : f__law_anew [.ref 1] (pen cs a v t) Q E := by
  simp only [f__law_anew, b__law_anew, getK, setK, Option.isSome_some, eqM_int, neM_int, kit_ii, kit_bi, kit_ni, kit_si, kit_ti, kit_li, kit_ib, kit_bb, kit_tt, kit_it, kit_bt, kit_nt, kit_st, kit_lt, atI0, atI1, atI2, ixN30, ixN31, ixN32, mFn, startM, mSeq, mIf, mAsg, mRet, mRetN, mDrop, mNext, gN, gT, gsCons, gsNil, gIx, mVar, mInt, mBl, mNon, mStr, mC, mOp1, mOp2, int2, plusM, addM, mulM2, negM, isM, isNotM, isNoneM, tV, tNo, tAn, Mini.tOr, mAnd, mOr, mNot, Mini.notM, Bool.not_false, Bool.not_true, Bool.false_eq_true, if_false, if_true, reduceIte, mIfE, aNil, aCons, mTup, mLst, mLstC, mSl, slM, pNo, pAt, mB, mCall, lenM, listM, listMC, tupleM, intM, boolM, ixM, ixV, seqOf, lstOf, Mini.cellOf, mPar, mPar3, mLc, mLcC, mFor, iSeq, Mini.iRng1, Mini.iRng2, Mini.iEnum, Mini.iZip, mIsi, isiM, tyM, mMt, mMt0, appendM, extendM, popM, catF, catF.lstM, mChain, tAll, wipeM, mdK, Prod.mk.injEq, and_assoc, List.map_cons, List.map_nil, List.length_cons, List.length_nil, List.replicate, List.cons_append, List.nil_append, List.getElem?_cons_zero, List.getElem?_cons_succ, List.set_cons_zero, List.set_cons_succ, Option.some.injEq, exists_eq_left', exists_eq_left, true_and, and_true, List.cons.injEq, MV.int.injEq, MV.bl.injEq, MV.tup.injEq, MV.fl.injEq, MV.str.injEq, MV.ref.injEq, Option.bind_some, exists_and_left, exists_const, Nat.sub_self, Nat.reduceSub, Nat.reduceAdd, List.append_nil, List.nil_append, List.length_map, Nat.add_zero, Nat.zero_add]
  have e : frz (t.length + 1 + 1) (pen cs a 0 t) 8 (.ref 1) = .ref 1 := if_pos (by omega)
  refine pen_end ht rfl ?_ ?_
  · rw [e]; simp [MV.lo]
  · rw [e]; exact k
theorem pen_endS {t : MHp} (ht : TOk t) {n : Nat} (hn : n = t.length + 2) {cs : List Int} {a v : Int} {Q : MQ} {x : MV} (hx : x.sok = true) (q : Q x (pen cs a v t)) : mdF n Q x (pen cs a v t) :=
  pen_end ht hn (by rw [frz_sok 8 hx]; exact lo_sok _ _ hx) (by rw [frz_sok 8 hx]; exact q)
theorem one_ok {cs : List Int} {a v : Int} {t : MHp} {xs : List MV} (ht : TOk t) (ha : 0 ≤ a) (ha2 : a < 2 ^ 30) (hx : ∀ x ∈ xs, x.sok = true) (h0 : xs ≠ []) (hl : xs.length < 2 ^ 30) {Q E : MQ} (k : ∀ x a' v', x ∈ xs → a ≤ a' → a' ≤ a + 1 → Q x (pen cs a' v' t)) :
    f__law_one [.ref 1, .fl xs] (pen cs a v t) Q E := by
  have hpos : 0 < xs.length := List.length_pos_iff.mpr h0
  simp only [f__law_one, b__law_one, getK, setK, Option.isSome_some, eqM_int, neM_int, kit_ii, kit_bi, kit_ni, kit_si, kit_ti, kit_li, kit_ib, kit_bb, kit_tt, kit_it, kit_bt, kit_nt, kit_st, kit_lt, atI0, atI1, atI2, ixN30, ixN31, ixN32, mFn, startM, mSeq, mIf, mAsg, mRet, mRetN, mDrop, mNext, gN, gT, gsCons, gsNil, gIx, mVar, mInt, mBl, mNon, mStr, mC, mOp1, mOp2, int2, plusM, addM, mulM2, negM, isM, isNotM, isNoneM, tV, tNo, tAn, Mini.tOr, mAnd, mOr, mNot, Mini.notM, Bool.not_false, Bool.not_true, Bool.false_eq_true, if_false, if_true, reduceIte, mIfE, aNil, aCons, mTup, mLst, mLstC, mSl, slM, pNo, pAt, mB, mCall, lenM, listM, listMC, tupleM, intM, boolM, ixM, ixV, seqOf, lstOf, Mini.cellOf, mPar, mPar3, mLc, mLcC, mFor, iSeq, Mini.iRng1, Mini.iRng2, Mini.iEnum, Mini.iZip, mIsi, isiM, tyM, mMt, mMt0, appendM, extendM, popM, catF, catF.lstM, mChain, tAll, wipeM, mdK, Prod.mk.injEq, and_assoc, List.map_cons, List.map_nil, List.length_cons, List.length_nil, List.replicate, List.cons_append, List.nil_append, List.getElem?_cons_zero, List.getElem?_cons_succ, List.set_cons_zero, List.set_cons_succ, Option.some.injEq, exists_eq_left', exists_eq_left, true_and, and_true, List.cons.injEq, MV.int.injEq, MV.bl.injEq, MV.tup.injEq, MV.fl.injEq, MV.str.injEq, MV.ref.injEq, Option.bind_some, exists_and_left, exists_const, Nat.sub_self, Nat.reduceSub, Nat.reduceAdd, List.append_nil, List.nil_append, List.length_map, Nat.add_zero, Nat.zero_add]
  refine take_ok ht ha ha2 (by omega) (by omega) fun r a' v' h1 h2 h3 h4 => ?_
  obtain ⟨x, e1, e2⟩ := atI_at (xs := xs) h1 h2
  have hm := List.mem_of_getElem? e2
  simp only [getK, setK, Option.isSome_some, eqM_int, neM_int, kit_ii, kit_bi, kit_ni, kit_si, kit_ti, kit_li, kit_ib, kit_bb, kit_tt, kit_it, kit_bt, kit_nt, kit_st, kit_lt, atI0, atI1, atI2, ixN30, ixN31, ixN32, mFn, startM, mSeq, mIf, mAsg, mRet, mRetN, mDrop, mNext, gN, gT, gsCons, gsNil, gIx, mVar, mInt, mBl, mNon, mStr, mC, mOp1, mOp2, int2, plusM, addM, mulM2, negM, isM, isNotM, isNoneM, tV, tNo, tAn, Mini.tOr, mAnd, mOr, mNot, Mini.notM, Bool.not_false, Bool.not_true, Bool.false_eq_true, if_false, if_true, reduceIte, mIfE, aNil, aCons, mTup, mLst, mLstC, mSl, slM, pNo, pAt, mB, mCall, lenM, listM, listMC, tupleM, intM, boolM, ixM, ixV, seqOf, lstOf, Mini.cellOf, mPar, mPar3, mLc, mLcC, mFor, iSeq, Mini.iRng1, Mini.iRng2, Mini.iEnum, Mini.iZip, mIsi, isiM, tyM, mMt, mMt0, appendM, extendM, popM, catF, catF.lstM, mChain, tAll, wipeM, mdK, Prod.mk.injEq, and_assoc, List.map_cons, List.map_nil, List.length_cons, List.length_nil, List.replicate, List.cons_append, List.nil_append, List.getElem?_cons_zero, List.getElem?_cons_succ, List.set_cons_zero, List.set_cons_succ, Option.some.injEq, exists_eq_left', exists_eq_left, true_and, and_true, List.cons.injEq, MV.int.injEq, MV.bl.injEq, MV.tup.injEq, MV.fl.injEq, MV.str.injEq, MV.ref.injEq, Option.bind_some, exists_and_left, exists_const, Nat.sub_self, Nat.reduceSub, Nat.reduceAdd, List.append_nil, List.nil_append, List.length_map, Nat.add_zero, Nat.zero_add]
  exact ⟨x, e1, pen_endS ht rfl (hx x hm) (k x a' v' hm h3 h4)⟩

/-! ### what a plan is -/
abbrev Hh (h : MHp) : Prop := oldOk h.length h = true
theorem bl_end {h : MHp} (hh : Hh h) {Q : MQ} {b : Bool} (q : Q (.bl b) h) : mdF h.length Q (.bl b) h := mdF_same rfl hh rfl q
def wholeB (v : MV) (lo hi : Int) : Bool := match v with
  | .int i => decide (lo ≤ i) && decide (i ≤ hi)
  | _ => false
theorem whole_ok {v : MV} {lo hi : Int} {h : MHp} (hh : Hh h) (hv : v.sok = true) {Q E : MQ} (k : Q (.bl (wholeB v lo hi)) h) : f__law_is_whole [v, .int lo, .int hi] h Q E := by
  simp only [f__law_is_whole, b__law_is_whole, getK, setK, Option.isSome_some, eqM_int, neM_int, kit_ii, kit_bi, kit_ni, kit_si, kit_ti, kit_li, kit_ib, kit_bb, kit_tt, kit_it, kit_bt, kit_nt, kit_st, kit_lt, atI0, atI1, atI2, ixN30, ixN31, ixN32, mFn, startM, mSeq, mIf, mAsg, mRet, mRetN, mDrop, mNext, gN, gT, gsCons, gsNil, gIx, mVar, mInt, mBl, mNon, mStr, mC, mOp1, mOp2, int2, plusM, addM, mulM2, negM, isM, isNotM, isNoneM, tV, tNo, tAn, Mini.tOr, mAnd, mOr, mNot, Mini.notM, Bool.not_false, Bool.not_true, Bool.false_eq_true, if_false, if_true, reduceIte, mIfE, aNil, aCons, mTup, mLst, mLstC, mSl, slM, pNo, pAt, mB, mCall, lenM, listM, listMC, tupleM, intM, boolM, ixM, ixV, seqOf, lstOf, Mini.cellOf, mPar, mPar3, mLc, mLcC, mFor, iSeq, Mini.iRng1, Mini.iRng2, Mini.iEnum, Mini.iZip, mIsi, isiM, tyM, mMt, mMt0, appendM, extendM, popM, catF, catF.lstM, mChain, tAll, wipeM, mdK, Prod.mk.injEq, and_assoc, List.map_cons, List.map_nil, List.length_cons, List.length_nil, List.replicate, List.cons_append, List.nil_append, List.getElem?_cons_zero, List.getElem?_cons_succ, List.set_cons_zero, List.set_cons_succ, Option.some.injEq, exists_eq_left', exists_eq_left, true_and, and_true, List.cons.injEq, MV.int.injEq, MV.bl.injEq, MV.tup.injEq, MV.fl.injEq, MV.str.injEq, MV.ref.injEq, Option.bind_some, exists_and_left, exists_const, Nat.sub_self, Nat.reduceSub, Nat.reduceAdd, List.append_nil, List.nil_append, List.length_map, Nat.add_zero, Nat.zero_add]
  cases v <;> first | (simp [MV.sok] at hv; done) | skip
  case int i =>
    simp only [getK, setK, Option.isSome_some, eqM_int, neM_int, kit_ii, kit_bi, kit_ni, kit_si, kit_ti, kit_li, kit_ib, kit_bb, kit_tt, kit_it, kit_bt, kit_nt, kit_st, kit_lt, atI0, atI1, atI2, ixN30, ixN31, ixN32, mFn, startM, mSeq, mIf, mAsg, mRet, mRetN, mDrop, mNext, gN, gT, gsCons, gsNil, gIx, mVar, mInt, mBl, mNon, mStr, mC, mOp1, mOp2, int2, plusM, addM, mulM2, negM, isM, isNotM, isNoneM, tV, tNo, tAn, Mini.tOr, mAnd, mOr, mNot, Mini.notM, Bool.not_false, Bool.not_true, Bool.false_eq_true, if_false, if_true, reduceIte, mIfE, aNil, aCons, mTup, mLst, mLstC, mSl, slM, pNo, pAt, mB, mCall, lenM, listM, listMC, tupleM, intM, boolM, ixM, ixV, seqOf, lstOf, Mini.cellOf, mPar, mPar3, mLc, mLcC, mFor, iSeq, Mini.iRng1, Mini.iRng2, Mini.iEnum, Mini.iZip, mIsi, isiM, tyM, mMt, mMt0, appendM, extendM, popM, catF, catF.lstM, mChain, tAll, wipeM, mdK, Prod.mk.injEq, and_assoc, List.map_cons, List.map_nil, List.length_cons, List.length_nil, List.replicate, List.cons_append, List.nil_append, List.getElem?_cons_zero, List.getElem?_cons_succ, List.set_cons_zero, List.set_cons_succ, Option.some.injEq, exists_eq_left', exists_eq_left, true_and, and_true, List.cons.injEq, MV.int.injEq, MV.bl.injEq, MV.tup.injEq, MV.fl.injEq, MV.str.injEq, MV.ref.injEq, Option.bind_some, exists_and_left, exists_const, Nat.sub_self, Nat.reduceSub, Nat.reduceAdd, List.append_nil, List.nil_append, List.length_map, Nat.add_zero, Nat.zero_add, if_true, Bool.not_false]
    by_cases h1 : lo ≤ i
    · simp only [wholeB, h1, decide_true, Bool.true_and, if_true] at k ⊢
      exact bl_end hh k
    · simp only [wholeB, h1, decide_false, Bool.false_and, Bool.false_eq_true, if_false] at k ⊢
      exact bl_end hh k
  all_goals (simp only [getK, setK, Option.isSome_some, eqM_int, neM_int, kit_ii, kit_bi, kit_ni, kit_si, kit_ti, kit_li, kit_ib, kit_bb, kit_tt, kit_it, kit_bt, kit_nt, kit_st, kit_lt, atI0, atI1, atI2, ixN30, ixN31, ixN32, mFn, startM, mSeq, mIf, mAsg, mRet, mRetN, mDrop, mNext, gN, gT, gsCons, gsNil, gIx, mVar, mInt, mBl, mNon, mStr, mC, mOp1, mOp2, int2, plusM, addM, mulM2, negM, isM, isNotM, isNoneM, tV, tNo, tAn, Mini.tOr, mAnd, mOr, mNot, Mini.notM, Bool.not_false, Bool.not_true, Bool.false_eq_true, if_false, if_true, reduceIte, mIfE, aNil, aCons, mTup, mLst, mLstC, mSl, slM, pNo, pAt, mB, mCall, lenM, listM, listMC, tupleM, intM, boolM, ixM, ixV, seqOf, lstOf, Mini.cellOf, mPar, mPar3, mLc, mLcC, mFor, iSeq, Mini.iRng1, Mini.iRng2, Mini.iEnum, Mini.iZip, mIsi, isiM, tyM, mMt, mMt0, appendM, extendM, popM, catF, catF.lstM, mChain, tAll, wipeM, mdK, Prod.mk.injEq, and_assoc, List.map_cons, List.map_nil, List.length_cons, List.length_nil, List.replicate, List.cons_append, List.nil_append, List.getElem?_cons_zero, List.getElem?_cons_succ, List.set_cons_zero, List.set_cons_succ, Option.some.injEq, exists_eq_left', exists_eq_left, true_and, and_true, List.cons.injEq, MV.int.injEq, MV.bl.injEq, MV.tup.injEq, MV.fl.injEq, MV.str.injEq, MV.ref.injEq, Option.bind_some, exists_and_left, exists_const, Nat.sub_self, Nat.reduceSub, Nat.reduceAdd, List.append_nil, List.nil_append, List.length_map, Nat.add_zero, Nat.zero_add, if_true, Bool.not_true, Bool.false_eq_true, if_false, reduceCtorEq, MV.bl.injEq]; exact bl_end hh k)
theorem integer_ok {v : MV} {h : MHp} (hh : Hh h) (hv : v.sok = true) {Q E : MQ} (k : Q (.bl (match v with | .int _ => true | _ => false)) h) : f_is_integer [v] h Q E := by
  simp only [f_is_integer, b_is_integer, getK, setK, Option.isSome_some, eqM_int, neM_int, kit_ii, kit_bi, kit_ni, kit_si, kit_ti, kit_li, kit_ib, kit_bb, kit_tt, kit_it, kit_bt, kit_nt, kit_st, kit_lt, atI0, atI1, atI2, ixN30, ixN31, ixN32, mFn, startM, mSeq, mIf, mAsg, mRet, mRetN, mDrop, mNext, gN, gT, gsCons, gsNil, gIx, mVar, mInt, mBl, mNon, mStr, mC, mOp1, mOp2, int2, plusM, addM, mulM2, negM, isM, isNotM, isNoneM, tV, tNo, tAn, Mini.tOr, mAnd, mOr, mNot, Mini.notM, Bool.not_false, Bool.not_true, Bool.false_eq_true, if_false, if_true, reduceIte, mIfE, aNil, aCons, mTup, mLst, mLstC, mSl, slM, pNo, pAt, mB, mCall, lenM, listM, listMC, tupleM, intM, boolM, ixM, ixV, seqOf, lstOf, Mini.cellOf, mPar, mPar3, mLc, mLcC, mFor, iSeq, Mini.iRng1, Mini.iRng2, Mini.iEnum, Mini.iZip, mIsi, isiM, tyM, mMt, mMt0, appendM, extendM, popM, catF, catF.lstM, mChain, tAll, wipeM, mdK, Prod.mk.injEq, and_assoc, List.map_cons, List.map_nil, List.length_cons, List.length_nil, List.replicate, List.cons_append, List.nil_append, List.getElem?_cons_zero, List.getElem?_cons_succ, List.set_cons_zero, List.set_cons_succ, Option.some.injEq, exists_eq_left', exists_eq_left, true_and, and_true, List.cons.injEq, MV.int.injEq, MV.bl.injEq, MV.tup.injEq, MV.fl.injEq, MV.str.injEq, MV.ref.injEq, Option.bind_some, exists_and_left, exists_const, Nat.sub_self, Nat.reduceSub, Nat.reduceAdd, List.append_nil, List.nil_append, List.length_map, Nat.add_zero, Nat.zero_add]
  cases v <;> first | (simp [MV.sok] at hv; done) | skip
  all_goals (simp only [getK, setK, Option.isSome_some, eqM_int, neM_int, kit_ii, kit_bi, kit_ni, kit_si, kit_ti, kit_li, kit_ib, kit_bb, kit_tt, kit_it, kit_bt, kit_nt, kit_st, kit_lt, atI0, atI1, atI2, ixN30, ixN31, ixN32, mFn, startM, mSeq, mIf, mAsg, mRet, mRetN, mDrop, mNext, gN, gT, gsCons, gsNil, gIx, mVar, mInt, mBl, mNon, mStr, mC, mOp1, mOp2, int2, plusM, addM, mulM2, negM, isM, isNotM, isNoneM, tV, tNo, tAn, Mini.tOr, mAnd, mOr, mNot, Mini.notM, Bool.not_false, Bool.not_true, Bool.false_eq_true, if_false, if_true, reduceIte, mIfE, aNil, aCons, mTup, mLst, mLstC, mSl, slM, pNo, pAt, mB, mCall, lenM, listM, listMC, tupleM, intM, boolM, ixM, ixV, seqOf, lstOf, Mini.cellOf, mPar, mPar3, mLc, mLcC, mFor, iSeq, Mini.iRng1, Mini.iRng2, Mini.iEnum, Mini.iZip, mIsi, isiM, tyM, mMt, mMt0, appendM, extendM, popM, catF, catF.lstM, mChain, tAll, wipeM, mdK, Prod.mk.injEq, and_assoc, List.map_cons, List.map_nil, List.length_cons, List.length_nil, List.replicate, List.cons_append, List.nil_append, List.getElem?_cons_zero, List.getElem?_cons_succ, List.set_cons_zero, List.set_cons_succ, Option.some.injEq, exists_eq_left', exists_eq_left, true_and, and_true, List.cons.injEq, MV.int.injEq, MV.bl.injEq, MV.tup.injEq, MV.fl.injEq, MV.str.injEq, MV.ref.injEq, Option.bind_some, exists_and_left, exists_const, Nat.sub_self, Nat.reduceSub, Nat.reduceAdd, List.append_nil, List.nil_append, List.length_map, Nat.add_zero, Nat.zero_add, if_true, Bool.not_true, Bool.not_false, Bool.false_eq_true, if_false]; exact bl_end hh k)
theorem between_ok {v : MV} {lo hi : Int} {h : MHp} (hh : Hh h) (hv : v.sok = true) {Q E : MQ} (k : Q (.bl (wholeB v lo hi)) h) : f_is_between [v, .int lo, .int hi] h Q E := by
  simp only [f_is_between, b_is_between, getK, setK, Option.isSome_some, eqM_int, neM_int, kit_ii, kit_bi, kit_ni, kit_si, kit_ti, kit_li, kit_ib, kit_bb, kit_tt, kit_it, kit_bt, kit_nt, kit_st, kit_lt, atI0, atI1, atI2, ixN30, ixN31, ixN32, mFn, startM, mSeq, mIf, mAsg, mRet, mRetN, mDrop, mNext, gN, gT, gsCons, gsNil, gIx, mVar, mInt, mBl, mNon, mStr, mC, mOp1, mOp2, int2, plusM, addM, mulM2, negM, isM, isNotM, isNoneM, tV, tNo, tAn, Mini.tOr, mAnd, mOr, mNot, Mini.notM, Bool.not_false, Bool.not_true, Bool.false_eq_true, if_false, if_true, reduceIte, mIfE, aNil, aCons, mTup, mLst, mLstC, mSl, slM, pNo, pAt, mB, mCall, lenM, listM, listMC, tupleM, intM, boolM, ixM, ixV, seqOf, lstOf, Mini.cellOf, mPar, mPar3, mLc, mLcC, mFor, iSeq, Mini.iRng1, Mini.iRng2, Mini.iEnum, Mini.iZip, mIsi, isiM, tyM, mMt, mMt0, appendM, extendM, popM, catF, catF.lstM, mChain, tAll, wipeM, mdK, Prod.mk.injEq, and_assoc, List.map_cons, List.map_nil, List.length_cons, List.length_nil, List.replicate, List.cons_append, List.nil_append, List.getElem?_cons_zero, List.getElem?_cons_succ, List.set_cons_zero, List.set_cons_succ, Option.some.injEq, exists_eq_left', exists_eq_left, true_and, and_true, List.cons.injEq, MV.int.injEq, MV.bl.injEq, MV.tup.injEq, MV.fl.injEq, MV.str.injEq, MV.ref.injEq, Option.bind_some, exists_and_left, exists_const, Nat.sub_self, Nat.reduceSub, Nat.reduceAdd, List.append_nil, List.nil_append, List.length_map, Nat.add_zero, Nat.zero_add]
  refine integer_ok hh hv ?_
  cases v <;> first | (simp [MV.sok] at hv; done) | skip
  case int i =>
    simp only [getK, setK, Option.isSome_some, eqM_int, neM_int, kit_ii, kit_bi, kit_ni, kit_si, kit_ti, kit_li, kit_ib, kit_bb, kit_tt, kit_it, kit_bt, kit_nt, kit_st, kit_lt, atI0, atI1, atI2, ixN30, ixN31, ixN32, mFn, startM, mSeq, mIf, mAsg, mRet, mRetN, mDrop, mNext, gN, gT, gsCons, gsNil, gIx, mVar, mInt, mBl, mNon, mStr, mC, mOp1, mOp2, int2, plusM, addM, mulM2, negM, isM, isNotM, isNoneM, tV, tNo, tAn, Mini.tOr, mAnd, mOr, mNot, Mini.notM, Bool.not_false, Bool.not_true, Bool.false_eq_true, if_false, if_true, reduceIte, mIfE, aNil, aCons, mTup, mLst, mLstC, mSl, slM, pNo, pAt, mB, mCall, lenM, listM, listMC, tupleM, intM, boolM, ixM, ixV, seqOf, lstOf, Mini.cellOf, mPar, mPar3, mLc, mLcC, mFor, iSeq, Mini.iRng1, Mini.iRng2, Mini.iEnum, Mini.iZip, mIsi, isiM, tyM, mMt, mMt0, appendM, extendM, popM, catF, catF.lstM, mChain, tAll, wipeM, mdK, Prod.mk.injEq, and_assoc, List.map_cons, List.map_nil, List.length_cons, List.length_nil, List.replicate, List.cons_append, List.nil_append, List.getElem?_cons_zero, List.getElem?_cons_succ, List.set_cons_zero, List.set_cons_succ, Option.some.injEq, exists_eq_left', exists_eq_left, true_and, and_true, List.cons.injEq, MV.int.injEq, MV.bl.injEq, MV.tup.injEq, MV.fl.injEq, MV.str.injEq, MV.ref.injEq, Option.bind_some, exists_and_left, exists_const, Nat.sub_self, Nat.reduceSub, Nat.reduceAdd, List.append_nil, List.nil_append, List.length_map, Nat.add_zero, Nat.zero_add, if_true]
    by_cases h1 : lo ≤ i
    · simp only [wholeB, h1, decide_true, Bool.true_and, if_true] at k ⊢
      exact bl_end hh k
    · simp only [wholeB, h1, decide_false, Bool.false_and, Bool.false_eq_true, if_false] at k ⊢
      exact bl_end hh k
  all_goals (simp only [getK, setK, Option.isSome_some, eqM_int, neM_int, kit_ii, kit_bi, kit_ni, kit_si, kit_ti, kit_li, kit_ib, kit_bb, kit_tt, kit_it, kit_bt, kit_nt, kit_st, kit_lt, atI0, atI1, atI2, ixN30, ixN31, ixN32, mFn, startM, mSeq, mIf, mAsg, mRet, mRetN, mDrop, mNext, gN, gT, gsCons, gsNil, gIx, mVar, mInt, mBl, mNon, mStr, mC, mOp1, mOp2, int2, plusM, addM, mulM2, negM, isM, isNotM, isNoneM, tV, tNo, tAn, Mini.tOr, mAnd, mOr, mNot, Mini.notM, Bool.not_false, Bool.not_true, Bool.false_eq_true, if_false, if_true, reduceIte, mIfE, aNil, aCons, mTup, mLst, mLstC, mSl, slM, pNo, pAt, mB, mCall, lenM, listM, listMC, tupleM, intM, boolM, ixM, ixV, seqOf, lstOf, Mini.cellOf, mPar, mPar3, mLc, mLcC, mFor, iSeq, Mini.iRng1, Mini.iRng2, Mini.iEnum, Mini.iZip, mIsi, isiM, tyM, mMt, mMt0, appendM, extendM, popM, catF, catF.lstM, mChain, tAll, wipeM, mdK, Prod.mk.injEq, and_assoc, List.map_cons, List.map_nil, List.length_cons, List.length_nil, List.replicate, List.cons_append, List.nil_append, List.getElem?_cons_zero, List.getElem?_cons_succ, List.set_cons_zero, List.set_cons_succ, Option.some.injEq, exists_eq_left', exists_eq_left, true_and, and_true, List.cons.injEq, MV.int.injEq, MV.bl.injEq, MV.tup.injEq, MV.fl.injEq, MV.str.injEq, MV.ref.injEq, Option.bind_some, exists_and_left, exists_const, Nat.sub_self, Nat.reduceSub, Nat.reduceAdd, List.append_nil, List.nil_append, List.length_map, Nat.add_zero, Nat.zero_add, Bool.false_eq_true, if_false]; exact bl_end hh k)

def memberB (ss : List Int) (v : MV) : Bool := match v with
  | .tup [.int i, b] => (decide (0 ≤ i) && decide (i ≤ (ss.length : Int) - 1)) && wholeB b 0 (ss.getD i.toNat 0 - 1)
  | _ => false
theorem sok2 {a b : MV} (h : (MV.tup [a, b]).sok = true) : a.sok = true ∧ b.sok = true := by simpa [MV.sok, sokAll] using h
theorem sok3 {a b c : MV} (h : (MV.tup [a, b, c]).sok = true) : a.sok = true ∧ b.sok = true ∧ c.sok = true := by simpa [MV.sok, sokAll] using h
theorem size_at {ss : List Int} {i : Int} (h1 : 0 ≤ i) (h2 : i ≤ (ss.length : Int) - 1) : atI (ss.map MV.int) i = some (.int (ss.getD i.toNat 0)) := by
  obtain ⟨x, e1, e2⟩ := atI_at (xs := ss.map MV.int) h1 (by rw [List.length_map]; omega)
  rw [List.getElem?_map, Option.map_eq_some_iff] at e2
  obtain ⟨c, hc, rfl⟩ := e2
  rw [e1, List.getD_eq_getElem?_getD, hc]
  rfl
theorem member_ok {ss : List Int} {v : MV} {h : MHp} (hh : Hh h) (hv : v.sok = true) {Q E : MQ} (k : Q (.bl (memberB ss v)) h) : f__law_is_member [.tup (ss.map .int), v] h Q E := by
  simp only [f__law_is_member, b__law_is_member, getK, setK, Option.isSome_some, eqM_int, neM_int, kit_ii, kit_bi, kit_ni, kit_si, kit_ti, kit_li, kit_ib, kit_bb, kit_tt, kit_it, kit_bt, kit_nt, kit_st, kit_lt, atI0, atI1, atI2, ixN30, ixN31, ixN32, mFn, startM, mSeq, mIf, mAsg, mRet, mRetN, mDrop, mNext, gN, gT, gsCons, gsNil, gIx, mVar, mInt, mBl, mNon, mStr, mC, mOp1, mOp2, int2, plusM, addM, mulM2, negM, isM, isNotM, isNoneM, tV, tNo, tAn, Mini.tOr, mAnd, mOr, mNot, Mini.notM, Bool.not_false, Bool.not_true, Bool.false_eq_true, if_false, if_true, reduceIte, mIfE, aNil, aCons, mTup, mLst, mLstC, mSl, slM, pNo, pAt, mB, mCall, lenM, listM, listMC, tupleM, intM, boolM, ixM, ixV, seqOf, lstOf, Mini.cellOf, mPar, mPar3, mLc, mLcC, mFor, iSeq, Mini.iRng1, Mini.iRng2, Mini.iEnum, Mini.iZip, mIsi, isiM, tyM, mMt, mMt0, appendM, extendM, popM, catF, catF.lstM, mChain, tAll, wipeM, mdK, Prod.mk.injEq, and_assoc, List.map_cons, List.map_nil, List.length_cons, List.length_nil, List.replicate, List.cons_append, List.nil_append, List.getElem?_cons_zero, List.getElem?_cons_succ, List.set_cons_zero, List.set_cons_succ, Option.some.injEq, exists_eq_left', exists_eq_left, true_and, and_true, List.cons.injEq, MV.int.injEq, MV.bl.injEq, MV.tup.injEq, MV.fl.injEq, MV.str.injEq, MV.ref.injEq, Option.bind_some, exists_and_left, exists_const, Nat.sub_self, Nat.reduceSub, Nat.reduceAdd, List.append_nil, List.nil_append, List.length_map, Nat.add_zero, Nat.zero_add]
  cases v <;> first | (simp [MV.sok] at hv; done) | skip
  case tup xs =>
    simp only [getK, setK, Option.isSome_some, eqM_int, neM_int, kit_ii, kit_bi, kit_ni, kit_si, kit_ti, kit_li, kit_ib, kit_bb, kit_tt, kit_it, kit_bt, kit_nt, kit_st, kit_lt, atI0, atI1, atI2, ixN30, ixN31, ixN32, mFn, startM, mSeq, mIf, mAsg, mRet, mRetN, mDrop, mNext, gN, gT, gsCons, gsNil, gIx, mVar, mInt, mBl, mNon, mStr, mC, mOp1, mOp2, int2, plusM, addM, mulM2, negM, isM, isNotM, isNoneM, tV, tNo, tAn, Mini.tOr, mAnd, mOr, mNot, Mini.notM, Bool.not_false, Bool.not_true, Bool.false_eq_true, if_false, if_true, reduceIte, mIfE, aNil, aCons, mTup, mLst, mLstC, mSl, slM, pNo, pAt, mB, mCall, lenM, listM, listMC, tupleM, intM, boolM, ixM, ixV, seqOf, lstOf, Mini.cellOf, mPar, mPar3, mLc, mLcC, mFor, iSeq, Mini.iRng1, Mini.iRng2, Mini.iEnum, Mini.iZip, mIsi, isiM, tyM, mMt, mMt0, appendM, extendM, popM, catF, catF.lstM, mChain, tAll, wipeM, mdK, Prod.mk.injEq, and_assoc, List.map_cons, List.map_nil, List.length_cons, List.length_nil, List.replicate, List.cons_append, List.nil_append, List.getElem?_cons_zero, List.getElem?_cons_succ, List.set_cons_zero, List.set_cons_succ, Option.some.injEq, exists_eq_left', exists_eq_left, true_and, and_true, List.cons.injEq, MV.int.injEq, MV.bl.injEq, MV.tup.injEq, MV.fl.injEq, MV.str.injEq, MV.ref.injEq, Option.bind_some, exists_and_left, exists_const, Nat.sub_self, Nat.reduceSub, Nat.reduceAdd, List.append_nil, List.nil_append, List.length_map, Nat.add_zero, Nat.zero_add]
    by_cases hl : xs.length = 2
    · obtain ⟨a, b, rfl⟩ := len2 hl
      obtain ⟨ha, hb⟩ := sok2 hv
      simp only [getK, setK, Option.isSome_some, eqM_int, neM_int, kit_ii, kit_bi, kit_ni, kit_si, kit_ti, kit_li, kit_ib, kit_bb, kit_tt, kit_it, kit_bt, kit_nt, kit_st, kit_lt, atI0, atI1, atI2, ixN30, ixN31, ixN32, mFn, startM, mSeq, mIf, mAsg, mRet, mRetN, mDrop, mNext, gN, gT, gsCons, gsNil, gIx, mVar, mInt, mBl, mNon, mStr, mC, mOp1, mOp2, int2, plusM, addM, mulM2, negM, isM, isNotM, isNoneM, tV, tNo, tAn, Mini.tOr, mAnd, mOr, mNot, Mini.notM, Bool.not_false, Bool.not_true, Bool.false_eq_true, if_false, if_true, reduceIte, mIfE, aNil, aCons, mTup, mLst, mLstC, mSl, slM, pNo, pAt, mB, mCall, lenM, listM, listMC, tupleM, intM, boolM, ixM, ixV, seqOf, lstOf, Mini.cellOf, mPar, mPar3, mLc, mLcC, mFor, iSeq, Mini.iRng1, Mini.iRng2, Mini.iEnum, Mini.iZip, mIsi, isiM, tyM, mMt, mMt0, appendM, extendM, popM, catF, catF.lstM, mChain, tAll, wipeM, mdK, Prod.mk.injEq, and_assoc, List.map_cons, List.map_nil, List.length_cons, List.length_nil, List.replicate, List.cons_append, List.nil_append, List.getElem?_cons_zero, List.getElem?_cons_succ, List.set_cons_zero, List.set_cons_succ, Option.some.injEq, exists_eq_left', exists_eq_left, true_and, and_true, List.cons.injEq, MV.int.injEq, MV.bl.injEq, MV.tup.injEq, MV.fl.injEq, MV.str.injEq, MV.ref.injEq, Option.bind_some, exists_and_left, exists_const, Nat.sub_self, Nat.reduceSub, Nat.reduceAdd, List.append_nil, List.nil_append, List.length_map, Nat.add_zero, Nat.zero_add]
      rw [if_neg (by decide)]
      refine whole_ok hh ha ?_
      refine ⟨_, rfl, ?_⟩
      cases a <;> first | (simp [MV.sok] at ha; done) | skip
      case int i =>
        by_cases h1 : 0 ≤ i
        · by_cases h2 : i ≤ (ss.length : Int) - 1
          · simp only [wholeB, h1, h2, decide_true, Bool.and_self, getK, setK, Option.isSome_some, eqM_int, neM_int, kit_ii, kit_bi, kit_ni, kit_si, kit_ti, kit_li, kit_ib, kit_bb, kit_tt, kit_it, kit_bt, kit_nt, kit_st, kit_lt, atI0, atI1, atI2, ixN30, ixN31, ixN32, mFn, startM, mSeq, mIf, mAsg, mRet, mRetN, mDrop, mNext, gN, gT, gsCons, gsNil, gIx, mVar, mInt, mBl, mNon, mStr, mC, mOp1, mOp2, int2, plusM, addM, mulM2, negM, isM, isNotM, isNoneM, tV, tNo, tAn, Mini.tOr, mAnd, mOr, mNot, Mini.notM, Bool.not_false, Bool.not_true, Bool.false_eq_true, if_false, if_true, reduceIte, mIfE, aNil, aCons, mTup, mLst, mLstC, mSl, slM, pNo, pAt, mB, mCall, lenM, listM, listMC, tupleM, intM, boolM, ixM, ixV, seqOf, lstOf, Mini.cellOf, mPar, mPar3, mLc, mLcC, mFor, iSeq, Mini.iRng1, Mini.iRng2, Mini.iEnum, Mini.iZip, mIsi, isiM, tyM, mMt, mMt0, appendM, extendM, popM, catF, catF.lstM, mChain, tAll, wipeM, mdK, Prod.mk.injEq, and_assoc, List.map_cons, List.map_nil, List.length_cons, List.length_nil, List.replicate, List.cons_append, List.nil_append, List.getElem?_cons_zero, List.getElem?_cons_succ, List.set_cons_zero, List.set_cons_succ, Option.some.injEq, exists_eq_left', exists_eq_left, true_and, and_true, List.cons.injEq, MV.int.injEq, MV.bl.injEq, MV.tup.injEq, MV.fl.injEq, MV.str.injEq, MV.ref.injEq, Option.bind_some, exists_and_left, exists_const, Nat.sub_self, Nat.reduceSub, Nat.reduceAdd, List.append_nil, List.nil_append, List.length_map, Nat.add_zero, Nat.zero_add]
            refine ⟨_, size_at h1 h2, ?_⟩
            simp only [getK, setK, Option.isSome_some, eqM_int, neM_int, kit_ii, kit_bi, kit_ni, kit_si, kit_ti, kit_li, kit_ib, kit_bb, kit_tt, kit_it, kit_bt, kit_nt, kit_st, kit_lt, atI0, atI1, atI2, ixN30, ixN31, ixN32, mFn, startM, mSeq, mIf, mAsg, mRet, mRetN, mDrop, mNext, gN, gT, gsCons, gsNil, gIx, mVar, mInt, mBl, mNon, mStr, mC, mOp1, mOp2, int2, plusM, addM, mulM2, negM, isM, isNotM, isNoneM, tV, tNo, tAn, Mini.tOr, mAnd, mOr, mNot, Mini.notM, Bool.not_false, Bool.not_true, Bool.false_eq_true, if_false, if_true, reduceIte, mIfE, aNil, aCons, mTup, mLst, mLstC, mSl, slM, pNo, pAt, mB, mCall, lenM, listM, listMC, tupleM, intM, boolM, ixM, ixV, seqOf, lstOf, Mini.cellOf, mPar, mPar3, mLc, mLcC, mFor, iSeq, Mini.iRng1, Mini.iRng2, Mini.iEnum, Mini.iZip, mIsi, isiM, tyM, mMt, mMt0, appendM, extendM, popM, catF, catF.lstM, mChain, tAll, wipeM, mdK, Prod.mk.injEq, and_assoc, List.map_cons, List.map_nil, List.length_cons, List.length_nil, List.replicate, List.cons_append, List.nil_append, List.getElem?_cons_zero, List.getElem?_cons_succ, List.set_cons_zero, List.set_cons_succ, Option.some.injEq, exists_eq_left', exists_eq_left, true_and, and_true, List.cons.injEq, MV.int.injEq, MV.bl.injEq, MV.tup.injEq, MV.fl.injEq, MV.str.injEq, MV.ref.injEq, Option.bind_some, exists_and_left, exists_const, Nat.sub_self, Nat.reduceSub, Nat.reduceAdd, List.append_nil, List.nil_append, List.length_map, Nat.add_zero, Nat.zero_add]
            refine whole_ok hh hb (bl_end hh ?_)
            simpa only [memberB, h1, h2, decide_true, Bool.true_and] using k
          · simp only [wholeB, h1, h2, decide_true, decide_false, Bool.and_false, getK, setK, Option.isSome_some, eqM_int, neM_int, kit_ii, kit_bi, kit_ni, kit_si, kit_ti, kit_li, kit_ib, kit_bb, kit_tt, kit_it, kit_bt, kit_nt, kit_st, kit_lt, atI0, atI1, atI2, ixN30, ixN31, ixN32, mFn, startM, mSeq, mIf, mAsg, mRet, mRetN, mDrop, mNext, gN, gT, gsCons, gsNil, gIx, mVar, mInt, mBl, mNon, mStr, mC, mOp1, mOp2, int2, plusM, addM, mulM2, negM, isM, isNotM, isNoneM, tV, tNo, tAn, Mini.tOr, mAnd, mOr, mNot, Mini.notM, Bool.not_false, Bool.not_true, Bool.false_eq_true, if_false, if_true, reduceIte, mIfE, aNil, aCons, mTup, mLst, mLstC, mSl, slM, pNo, pAt, mB, mCall, lenM, listM, listMC, tupleM, intM, boolM, ixM, ixV, seqOf, lstOf, Mini.cellOf, mPar, mPar3, mLc, mLcC, mFor, iSeq, Mini.iRng1, Mini.iRng2, Mini.iEnum, Mini.iZip, mIsi, isiM, tyM, mMt, mMt0, appendM, extendM, popM, catF, catF.lstM, mChain, tAll, wipeM, mdK, Prod.mk.injEq, and_assoc, List.map_cons, List.map_nil, List.length_cons, List.length_nil, List.replicate, List.cons_append, List.nil_append, List.getElem?_cons_zero, List.getElem?_cons_succ, List.set_cons_zero, List.set_cons_succ, Option.some.injEq, exists_eq_left', exists_eq_left, true_and, and_true, List.cons.injEq, MV.int.injEq, MV.bl.injEq, MV.tup.injEq, MV.fl.injEq, MV.str.injEq, MV.ref.injEq, Option.bind_some, exists_and_left, exists_const, Nat.sub_self, Nat.reduceSub, Nat.reduceAdd, List.append_nil, List.nil_append, List.length_map, Nat.add_zero, Nat.zero_add]
            refine bl_end hh ?_
            simpa only [memberB, h1, h2, decide_true, decide_false, Bool.and_false, Bool.false_and] using k
        · simp only [wholeB, h1, decide_false, Bool.false_and, getK, setK, Option.isSome_some, eqM_int, neM_int, kit_ii, kit_bi, kit_ni, kit_si, kit_ti, kit_li, kit_ib, kit_bb, kit_tt, kit_it, kit_bt, kit_nt, kit_st, kit_lt, atI0, atI1, atI2, ixN30, ixN31, ixN32, mFn, startM, mSeq, mIf, mAsg, mRet, mRetN, mDrop, mNext, gN, gT, gsCons, gsNil, gIx, mVar, mInt, mBl, mNon, mStr, mC, mOp1, mOp2, int2, plusM, addM, mulM2, negM, isM, isNotM, isNoneM, tV, tNo, tAn, Mini.tOr, mAnd, mOr, mNot, Mini.notM, Bool.not_false, Bool.not_true, Bool.false_eq_true, if_false, if_true, reduceIte, mIfE, aNil, aCons, mTup, mLst, mLstC, mSl, slM, pNo, pAt, mB, mCall, lenM, listM, listMC, tupleM, intM, boolM, ixM, ixV, seqOf, lstOf, Mini.cellOf, mPar, mPar3, mLc, mLcC, mFor, iSeq, Mini.iRng1, Mini.iRng2, Mini.iEnum, Mini.iZip, mIsi, isiM, tyM, mMt, mMt0, appendM, extendM, popM, catF, catF.lstM, mChain, tAll, wipeM, mdK, Prod.mk.injEq, and_assoc, List.map_cons, List.map_nil, List.length_cons, List.length_nil, List.replicate, List.cons_append, List.nil_append, List.getElem?_cons_zero, List.getElem?_cons_succ, List.set_cons_zero, List.set_cons_succ, Option.some.injEq, exists_eq_left', exists_eq_left, true_and, and_true, List.cons.injEq, MV.int.injEq, MV.bl.injEq, MV.tup.injEq, MV.fl.injEq, MV.str.injEq, MV.ref.injEq, Option.bind_some, exists_and_left, exists_const, Nat.sub_self, Nat.reduceSub, Nat.reduceAdd, List.append_nil, List.nil_append, List.length_map, Nat.add_zero, Nat.zero_add]
          refine bl_end hh ?_
          simpa only [memberB, h1, decide_false, Bool.false_and] using k
      all_goals (simp only [wholeB, getK, setK, Option.isSome_some, eqM_int, neM_int, kit_ii, kit_bi, kit_ni, kit_si, kit_ti, kit_li, kit_ib, kit_bb, kit_tt, kit_it, kit_bt, kit_nt, kit_st, kit_lt, atI0, atI1, atI2, ixN30, ixN31, ixN32, mFn, startM, mSeq, mIf, mAsg, mRet, mRetN, mDrop, mNext, gN, gT, gsCons, gsNil, gIx, mVar, mInt, mBl, mNon, mStr, mC, mOp1, mOp2, int2, plusM, addM, mulM2, negM, isM, isNotM, isNoneM, tV, tNo, tAn, Mini.tOr, mAnd, mOr, mNot, Mini.notM, Bool.not_false, Bool.not_true, Bool.false_eq_true, if_false, if_true, reduceIte, mIfE, aNil, aCons, mTup, mLst, mLstC, mSl, slM, pNo, pAt, mB, mCall, lenM, listM, listMC, tupleM, intM, boolM, ixM, ixV, seqOf, lstOf, Mini.cellOf, mPar, mPar3, mLc, mLcC, mFor, iSeq, Mini.iRng1, Mini.iRng2, Mini.iEnum, Mini.iZip, mIsi, isiM, tyM, mMt, mMt0, appendM, extendM, popM, catF, catF.lstM, mChain, tAll, wipeM, mdK, Prod.mk.injEq, and_assoc, List.map_cons, List.map_nil, List.length_cons, List.length_nil, List.replicate, List.cons_append, List.nil_append, List.getElem?_cons_zero, List.getElem?_cons_succ, List.set_cons_zero, List.set_cons_succ, Option.some.injEq, exists_eq_left', exists_eq_left, true_and, and_true, List.cons.injEq, MV.int.injEq, MV.bl.injEq, MV.tup.injEq, MV.fl.injEq, MV.str.injEq, MV.ref.injEq, Option.bind_some, exists_and_left, exists_const, Nat.sub_self, Nat.reduceSub, Nat.reduceAdd, List.append_nil, List.nil_append, List.length_map, Nat.add_zero, Nat.zero_add]; exact bl_end hh k)
    · have e : ((xs.length : Int) == 2) = false := by simp; omega
      simp only [e, getK, setK, Option.isSome_some, eqM_int, neM_int, kit_ii, kit_bi, kit_ni, kit_si, kit_ti, kit_li, kit_ib, kit_bb, kit_tt, kit_it, kit_bt, kit_nt, kit_st, kit_lt, atI0, atI1, atI2, ixN30, ixN31, ixN32, mFn, startM, mSeq, mIf, mAsg, mRet, mRetN, mDrop, mNext, gN, gT, gsCons, gsNil, gIx, mVar, mInt, mBl, mNon, mStr, mC, mOp1, mOp2, int2, plusM, addM, mulM2, negM, isM, isNotM, isNoneM, tV, tNo, tAn, Mini.tOr, mAnd, mOr, mNot, Mini.notM, Bool.not_false, Bool.not_true, Bool.false_eq_true, if_false, if_true, reduceIte, mIfE, aNil, aCons, mTup, mLst, mLstC, mSl, slM, pNo, pAt, mB, mCall, lenM, listM, listMC, tupleM, intM, boolM, ixM, ixV, seqOf, lstOf, Mini.cellOf, mPar, mPar3, mLc, mLcC, mFor, iSeq, Mini.iRng1, Mini.iRng2, Mini.iEnum, Mini.iZip, mIsi, isiM, tyM, mMt, mMt0, appendM, extendM, popM, catF, catF.lstM, mChain, tAll, wipeM, mdK, Prod.mk.injEq, and_assoc, List.map_cons, List.map_nil, List.length_cons, List.length_nil, List.replicate, List.cons_append, List.nil_append, List.getElem?_cons_zero, List.getElem?_cons_succ, List.set_cons_zero, List.set_cons_succ, Option.some.injEq, exists_eq_left', exists_eq_left, true_and, and_true, List.cons.injEq, MV.int.injEq, MV.bl.injEq, MV.tup.injEq, MV.fl.injEq, MV.str.injEq, MV.ref.injEq, Option.bind_some, exists_and_left, exists_const, Nat.sub_self, Nat.reduceSub, Nat.reduceAdd, List.append_nil, List.nil_append, List.length_map, Nat.add_zero, Nat.zero_add]
      refine bl_end hh ?_
      have : memberB ss (.tup xs) = false := by
        unfold memberB
        split
        · simp_all
        · rfl
      rwa [this] at k
  all_goals (simp only [getK, setK, Option.isSome_some, eqM_int, neM_int, kit_ii, kit_bi, kit_ni, kit_si, kit_ti, kit_li, kit_ib, kit_bb, kit_tt, kit_it, kit_bt, kit_nt, kit_st, kit_lt, atI0, atI1, atI2, ixN30, ixN31, ixN32, mFn, startM, mSeq, mIf, mAsg, mRet, mRetN, mDrop, mNext, gN, gT, gsCons, gsNil, gIx, mVar, mInt, mBl, mNon, mStr, mC, mOp1, mOp2, int2, plusM, addM, mulM2, negM, isM, isNotM, isNoneM, tV, tNo, tAn, Mini.tOr, mAnd, mOr, mNot, Mini.notM, Bool.not_false, Bool.not_true, Bool.false_eq_true, if_false, if_true, reduceIte, mIfE, aNil, aCons, mTup, mLst, mLstC, mSl, slM, pNo, pAt, mB, mCall, lenM, listM, listMC, tupleM, intM, boolM, ixM, ixV, seqOf, lstOf, Mini.cellOf, mPar, mPar3, mLc, mLcC, mFor, iSeq, Mini.iRng1, Mini.iRng2, Mini.iEnum, Mini.iZip, mIsi, isiM, tyM, mMt, mMt0, appendM, extendM, popM, catF, catF.lstM, mChain, tAll, wipeM, mdK, Prod.mk.injEq, and_assoc, List.map_cons, List.map_nil, List.length_cons, List.length_nil, List.replicate, List.cons_append, List.nil_append, List.getElem?_cons_zero, List.getElem?_cons_succ, List.set_cons_zero, List.set_cons_succ, Option.some.injEq, exists_eq_left', exists_eq_left, true_and, and_true, List.cons.injEq, MV.int.injEq, MV.bl.injEq, MV.tup.injEq, MV.fl.injEq, MV.str.injEq, MV.ref.injEq, Option.bind_some, exists_and_left, exists_const, Nat.sub_self, Nat.reduceSub, Nat.reduceAdd, List.append_nil, List.nil_append, List.length_map, Nat.add_zero, Nat.zero_add]; exact bl_end hh k)
theorem job_ok {ss : List Int} {v : MV} {h : MHp} (hh : Hh h) (hv : v.sok = true) {Q E : MQ} (k : Q (.bl (memberB ss v)) h) : f_is_job_in [.tup (ss.map .int), v] h Q E := by
  simp only [f_is_job_in, b_is_job_in, getK, setK, Option.isSome_some, eqM_int, neM_int, kit_ii, kit_bi, kit_ni, kit_si, kit_ti, kit_li, kit_ib, kit_bb, kit_tt, kit_it, kit_bt, kit_nt, kit_st, kit_lt, atI0, atI1, atI2, ixN30, ixN31, ixN32, mFn, startM, mSeq, mIf, mAsg, mRet, mRetN, mDrop, mNext, gN, gT, gsCons, gsNil, gIx, mVar, mInt, mBl, mNon, mStr, mC, mOp1, mOp2, int2, plusM, addM, mulM2, negM, isM, isNotM, isNoneM, tV, tNo, tAn, Mini.tOr, mAnd, mOr, mNot, Mini.notM, Bool.not_false, Bool.not_true, Bool.false_eq_true, if_false, if_true, reduceIte, mIfE, aNil, aCons, mTup, mLst, mLstC, mSl, slM, pNo, pAt, mB, mCall, lenM, listM, listMC, tupleM, intM, boolM, ixM, ixV, seqOf, lstOf, Mini.cellOf, mPar, mPar3, mLc, mLcC, mFor, iSeq, Mini.iRng1, Mini.iRng2, Mini.iEnum, Mini.iZip, mIsi, isiM, tyM, mMt, mMt0, appendM, extendM, popM, catF, catF.lstM, mChain, tAll, wipeM, mdK, Prod.mk.injEq, and_assoc, List.map_cons, List.map_nil, List.length_cons, List.length_nil, List.replicate, List.cons_append, List.nil_append, List.getElem?_cons_zero, List.getElem?_cons_succ, List.set_cons_zero, List.set_cons_succ, Option.some.injEq, exists_eq_left', exists_eq_left, true_and, and_true, List.cons.injEq, MV.int.injEq, MV.bl.injEq, MV.tup.injEq, MV.fl.injEq, MV.str.injEq, MV.ref.injEq, Option.bind_some, exists_and_left, exists_const, Nat.sub_self, Nat.reduceSub, Nat.reduceAdd, List.append_nil, List.nil_append, List.length_map, Nat.add_zero, Nat.zero_add]
  cases v <;> first | (simp [MV.sok] at hv; done) | skip
  case tup xs =>
    simp only [getK, setK, Option.isSome_some, eqM_int, neM_int, kit_ii, kit_bi, kit_ni, kit_si, kit_ti, kit_li, kit_ib, kit_bb, kit_tt, kit_it, kit_bt, kit_nt, kit_st, kit_lt, atI0, atI1, atI2, ixN30, ixN31, ixN32, mFn, startM, mSeq, mIf, mAsg, mRet, mRetN, mDrop, mNext, gN, gT, gsCons, gsNil, gIx, mVar, mInt, mBl, mNon, mStr, mC, mOp1, mOp2, int2, plusM, addM, mulM2, negM, isM, isNotM, isNoneM, tV, tNo, tAn, Mini.tOr, mAnd, mOr, mNot, Mini.notM, Bool.not_false, Bool.not_true, Bool.false_eq_true, if_false, if_true, reduceIte, mIfE, aNil, aCons, mTup, mLst, mLstC, mSl, slM, pNo, pAt, mB, mCall, lenM, listM, listMC, tupleM, intM, boolM, ixM, ixV, seqOf, lstOf, Mini.cellOf, mPar, mPar3, mLc, mLcC, mFor, iSeq, Mini.iRng1, Mini.iRng2, Mini.iEnum, Mini.iZip, mIsi, isiM, tyM, mMt, mMt0, appendM, extendM, popM, catF, catF.lstM, mChain, tAll, wipeM, mdK, Prod.mk.injEq, and_assoc, List.map_cons, List.map_nil, List.length_cons, List.length_nil, List.replicate, List.cons_append, List.nil_append, List.getElem?_cons_zero, List.getElem?_cons_succ, List.set_cons_zero, List.set_cons_succ, Option.some.injEq, exists_eq_left', exists_eq_left, true_and, and_true, List.cons.injEq, MV.int.injEq, MV.bl.injEq, MV.tup.injEq, MV.fl.injEq, MV.str.injEq, MV.ref.injEq, Option.bind_some, exists_and_left, exists_const, Nat.sub_self, Nat.reduceSub, Nat.reduceAdd, List.append_nil, List.nil_append, List.length_map, Nat.add_zero, Nat.zero_add]
    by_cases hl : xs.length = 2
    · obtain ⟨a, b, rfl⟩ := len2 hl
      obtain ⟨ha, hb⟩ := sok2 hv
      simp only [getK, setK, Option.isSome_some, eqM_int, neM_int, kit_ii, kit_bi, kit_ni, kit_si, kit_ti, kit_li, kit_ib, kit_bb, kit_tt, kit_it, kit_bt, kit_nt, kit_st, kit_lt, atI0, atI1, atI2, ixN30, ixN31, ixN32, mFn, startM, mSeq, mIf, mAsg, mRet, mRetN, mDrop, mNext, gN, gT, gsCons, gsNil, gIx, mVar, mInt, mBl, mNon, mStr, mC, mOp1, mOp2, int2, plusM, addM, mulM2, negM, isM, isNotM, isNoneM, tV, tNo, tAn, Mini.tOr, mAnd, mOr, mNot, Mini.notM, Bool.not_false, Bool.not_true, Bool.false_eq_true, if_false, if_true, reduceIte, mIfE, aNil, aCons, mTup, mLst, mLstC, mSl, slM, pNo, pAt, mB, mCall, lenM, listM, listMC, tupleM, intM, boolM, ixM, ixV, seqOf, lstOf, Mini.cellOf, mPar, mPar3, mLc, mLcC, mFor, iSeq, Mini.iRng1, Mini.iRng2, Mini.iEnum, Mini.iZip, mIsi, isiM, tyM, mMt, mMt0, appendM, extendM, popM, catF, catF.lstM, mChain, tAll, wipeM, mdK, Prod.mk.injEq, and_assoc, List.map_cons, List.map_nil, List.length_cons, List.length_nil, List.replicate, List.cons_append, List.nil_append, List.getElem?_cons_zero, List.getElem?_cons_succ, List.set_cons_zero, List.set_cons_succ, Option.some.injEq, exists_eq_left', exists_eq_left, true_and, and_true, List.cons.injEq, MV.int.injEq, MV.bl.injEq, MV.tup.injEq, MV.fl.injEq, MV.str.injEq, MV.ref.injEq, Option.bind_some, exists_and_left, exists_const, Nat.sub_self, Nat.reduceSub, Nat.reduceAdd, List.append_nil, List.nil_append, List.length_map, Nat.add_zero, Nat.zero_add]
      rw [if_neg (by decide)]
      refine between_ok hh ha ?_
      refine ⟨_, rfl, ?_⟩
      cases a <;> first | (simp [MV.sok] at ha; done) | skip
      case int i =>
        by_cases h1 : 0 ≤ i
        · by_cases h2 : i ≤ (ss.length : Int) - 1
          · simp only [wholeB, h1, h2, decide_true, Bool.and_self, getK, setK, Option.isSome_some, eqM_int, neM_int, kit_ii, kit_bi, kit_ni, kit_si, kit_ti, kit_li, kit_ib, kit_bb, kit_tt, kit_it, kit_bt, kit_nt, kit_st, kit_lt, atI0, atI1, atI2, ixN30, ixN31, ixN32, mFn, startM, mSeq, mIf, mAsg, mRet, mRetN, mDrop, mNext, gN, gT, gsCons, gsNil, gIx, mVar, mInt, mBl, mNon, mStr, mC, mOp1, mOp2, int2, plusM, addM, mulM2, negM, isM, isNotM, isNoneM, tV, tNo, tAn, Mini.tOr, mAnd, mOr, mNot, Mini.notM, Bool.not_false, Bool.not_true, Bool.false_eq_true, if_false, if_true, reduceIte, mIfE, aNil, aCons, mTup, mLst, mLstC, mSl, slM, pNo, pAt, mB, mCall, lenM, listM, listMC, tupleM, intM, boolM, ixM, ixV, seqOf, lstOf, Mini.cellOf, mPar, mPar3, mLc, mLcC, mFor, iSeq, Mini.iRng1, Mini.iRng2, Mini.iEnum, Mini.iZip, mIsi, isiM, tyM, mMt, mMt0, appendM, extendM, popM, catF, catF.lstM, mChain, tAll, wipeM, mdK, Prod.mk.injEq, and_assoc, List.map_cons, List.map_nil, List.length_cons, List.length_nil, List.replicate, List.cons_append, List.nil_append, List.getElem?_cons_zero, List.getElem?_cons_succ, List.set_cons_zero, List.set_cons_succ, Option.some.injEq, exists_eq_left', exists_eq_left, true_and, and_true, List.cons.injEq, MV.int.injEq, MV.bl.injEq, MV.tup.injEq, MV.fl.injEq, MV.str.injEq, MV.ref.injEq, Option.bind_some, exists_and_left, exists_const, Nat.sub_self, Nat.reduceSub, Nat.reduceAdd, List.append_nil, List.nil_append, List.length_map, Nat.add_zero, Nat.zero_add]
            refine ⟨_, size_at h1 h2, ?_⟩
            simp only [getK, setK, Option.isSome_some, eqM_int, neM_int, kit_ii, kit_bi, kit_ni, kit_si, kit_ti, kit_li, kit_ib, kit_bb, kit_tt, kit_it, kit_bt, kit_nt, kit_st, kit_lt, atI0, atI1, atI2, ixN30, ixN31, ixN32, mFn, startM, mSeq, mIf, mAsg, mRet, mRetN, mDrop, mNext, gN, gT, gsCons, gsNil, gIx, mVar, mInt, mBl, mNon, mStr, mC, mOp1, mOp2, int2, plusM, addM, mulM2, negM, isM, isNotM, isNoneM, tV, tNo, tAn, Mini.tOr, mAnd, mOr, mNot, Mini.notM, Bool.not_false, Bool.not_true, Bool.false_eq_true, if_false, if_true, reduceIte, mIfE, aNil, aCons, mTup, mLst, mLstC, mSl, slM, pNo, pAt, mB, mCall, lenM, listM, listMC, tupleM, intM, boolM, ixM, ixV, seqOf, lstOf, Mini.cellOf, mPar, mPar3, mLc, mLcC, mFor, iSeq, Mini.iRng1, Mini.iRng2, Mini.iEnum, Mini.iZip, mIsi, isiM, tyM, mMt, mMt0, appendM, extendM, popM, catF, catF.lstM, mChain, tAll, wipeM, mdK, Prod.mk.injEq, and_assoc, List.map_cons, List.map_nil, List.length_cons, List.length_nil, List.replicate, List.cons_append, List.nil_append, List.getElem?_cons_zero, List.getElem?_cons_succ, List.set_cons_zero, List.set_cons_succ, Option.some.injEq, exists_eq_left', exists_eq_left, true_and, and_true, List.cons.injEq, MV.int.injEq, MV.bl.injEq, MV.tup.injEq, MV.fl.injEq, MV.str.injEq, MV.ref.injEq, Option.bind_some, exists_and_left, exists_const, Nat.sub_self, Nat.reduceSub, Nat.reduceAdd, List.append_nil, List.nil_append, List.length_map, Nat.add_zero, Nat.zero_add]
            refine between_ok hh hb (bl_end hh ?_)
            simpa only [memberB, h1, h2, decide_true, Bool.true_and] using k
          · simp only [wholeB, h1, h2, decide_true, decide_false, Bool.and_false, getK, setK, Option.isSome_some, eqM_int, neM_int, kit_ii, kit_bi, kit_ni, kit_si, kit_ti, kit_li, kit_ib, kit_bb, kit_tt, kit_it, kit_bt, kit_nt, kit_st, kit_lt, atI0, atI1, atI2, ixN30, ixN31, ixN32, mFn, startM, mSeq, mIf, mAsg, mRet, mRetN, mDrop, mNext, gN, gT, gsCons, gsNil, gIx, mVar, mInt, mBl, mNon, mStr, mC, mOp1, mOp2, int2, plusM, addM, mulM2, negM, isM, isNotM, isNoneM, tV, tNo, tAn, Mini.tOr, mAnd, mOr, mNot, Mini.notM, Bool.not_false, Bool.not_true, Bool.false_eq_true, if_false, if_true, reduceIte, mIfE, aNil, aCons, mTup, mLst, mLstC, mSl, slM, pNo, pAt, mB, mCall, lenM, listM, listMC, tupleM, intM, boolM, ixM, ixV, seqOf, lstOf, Mini.cellOf, mPar, mPar3, mLc, mLcC, mFor, iSeq, Mini.iRng1, Mini.iRng2, Mini.iEnum, Mini.iZip, mIsi, isiM, tyM, mMt, mMt0, appendM, extendM, popM, catF, catF.lstM, mChain, tAll, wipeM, mdK, Prod.mk.injEq, and_assoc, List.map_cons, List.map_nil, List.length_cons, List.length_nil, List.replicate, List.cons_append, List.nil_append, List.getElem?_cons_zero, List.getElem?_cons_succ, List.set_cons_zero, List.set_cons_succ, Option.some.injEq, exists_eq_left', exists_eq_left, true_and, and_true, List.cons.injEq, MV.int.injEq, MV.bl.injEq, MV.tup.injEq, MV.fl.injEq, MV.str.injEq, MV.ref.injEq, Option.bind_some, exists_and_left, exists_const, Nat.sub_self, Nat.reduceSub, Nat.reduceAdd, List.append_nil, List.nil_append, List.length_map, Nat.add_zero, Nat.zero_add]
            refine bl_end hh ?_
            simpa only [memberB, h1, h2, decide_true, decide_false, Bool.and_false, Bool.false_and] using k
        · simp only [wholeB, h1, decide_false, Bool.false_and, getK, setK, Option.isSome_some, eqM_int, neM_int, kit_ii, kit_bi, kit_ni, kit_si, kit_ti, kit_li, kit_ib, kit_bb, kit_tt, kit_it, kit_bt, kit_nt, kit_st, kit_lt, atI0, atI1, atI2, ixN30, ixN31, ixN32, mFn, startM, mSeq, mIf, mAsg, mRet, mRetN, mDrop, mNext, gN, gT, gsCons, gsNil, gIx, mVar, mInt, mBl, mNon, mStr, mC, mOp1, mOp2, int2, plusM, addM, mulM2, negM, isM, isNotM, isNoneM, tV, tNo, tAn, Mini.tOr, mAnd, mOr, mNot, Mini.notM, Bool.not_false, Bool.not_true, Bool.false_eq_true, if_false, if_true, reduceIte, mIfE, aNil, aCons, mTup, mLst, mLstC, mSl, slM, pNo, pAt, mB, mCall, lenM, listM, listMC, tupleM, intM, boolM, ixM, ixV, seqOf, lstOf, Mini.cellOf, mPar, mPar3, mLc, mLcC, mFor, iSeq, Mini.iRng1, Mini.iRng2, Mini.iEnum, Mini.iZip, mIsi, isiM, tyM, mMt, mMt0, appendM, extendM, popM, catF, catF.lstM, mChain, tAll, wipeM, mdK, Prod.mk.injEq, and_assoc, List.map_cons, List.map_nil, List.length_cons, List.length_nil, List.replicate, List.cons_append, List.nil_append, List.getElem?_cons_zero, List.getElem?_cons_succ, List.set_cons_zero, List.set_cons_succ, Option.some.injEq, exists_eq_left', exists_eq_left, true_and, and_true, List.cons.injEq, MV.int.injEq, MV.bl.injEq, MV.tup.injEq, MV.fl.injEq, MV.str.injEq, MV.ref.injEq, Option.bind_some, exists_and_left, exists_const, Nat.sub_self, Nat.reduceSub, Nat.reduceAdd, List.append_nil, List.nil_append, List.length_map, Nat.add_zero, Nat.zero_add]
          refine bl_end hh ?_
          simpa only [memberB, h1, decide_false, Bool.false_and] using k
      all_goals (simp only [wholeB, getK, setK, Option.isSome_some, eqM_int, neM_int, kit_ii, kit_bi, kit_ni, kit_si, kit_ti, kit_li, kit_ib, kit_bb, kit_tt, kit_it, kit_bt, kit_nt, kit_st, kit_lt, atI0, atI1, atI2, ixN30, ixN31, ixN32, mFn, startM, mSeq, mIf, mAsg, mRet, mRetN, mDrop, mNext, gN, gT, gsCons, gsNil, gIx, mVar, mInt, mBl, mNon, mStr, mC, mOp1, mOp2, int2, plusM, addM, mulM2, negM, isM, isNotM, isNoneM, tV, tNo, tAn, Mini.tOr, mAnd, mOr, mNot, Mini.notM, Bool.not_false, Bool.not_true, Bool.false_eq_true, if_false, if_true, reduceIte, mIfE, aNil, aCons, mTup, mLst, mLstC, mSl, slM, pNo, pAt, mB, mCall, lenM, listM, listMC, tupleM, intM, boolM, ixM, ixV, seqOf, lstOf, Mini.cellOf, mPar, mPar3, mLc, mLcC, mFor, iSeq, Mini.iRng1, Mini.iRng2, Mini.iEnum, Mini.iZip, mIsi, isiM, tyM, mMt, mMt0, appendM, extendM, popM, catF, catF.lstM, mChain, tAll, wipeM, mdK, Prod.mk.injEq, and_assoc, List.map_cons, List.map_nil, List.length_cons, List.length_nil, List.replicate, List.cons_append, List.nil_append, List.getElem?_cons_zero, List.getElem?_cons_succ, List.set_cons_zero, List.set_cons_succ, Option.some.injEq, exists_eq_left', exists_eq_left, true_and, and_true, List.cons.injEq, MV.int.injEq, MV.bl.injEq, MV.tup.injEq, MV.fl.injEq, MV.str.injEq, MV.ref.injEq, Option.bind_some, exists_and_left, exists_const, Nat.sub_self, Nat.reduceSub, Nat.reduceAdd, List.append_nil, List.nil_append, List.length_map, Nat.add_zero, Nat.zero_add]; exact bl_end hh k)
    · have e : ((xs.length : Int) == 2) = false := by simp; omega
      simp only [e, getK, setK, Option.isSome_some, eqM_int, neM_int, kit_ii, kit_bi, kit_ni, kit_si, kit_ti, kit_li, kit_ib, kit_bb, kit_tt, kit_it, kit_bt, kit_nt, kit_st, kit_lt, atI0, atI1, atI2, ixN30, ixN31, ixN32, mFn, startM, mSeq, mIf, mAsg, mRet, mRetN, mDrop, mNext, gN, gT, gsCons, gsNil, gIx, mVar, mInt, mBl, mNon, mStr, mC, mOp1, mOp2, int2, plusM, addM, mulM2, negM, isM, isNotM, isNoneM, tV, tNo, tAn, Mini.tOr, mAnd, mOr, mNot, Mini.notM, Bool.not_false, Bool.not_true, Bool.false_eq_true, if_false, if_true, reduceIte, mIfE, aNil, aCons, mTup, mLst, mLstC, mSl, slM, pNo, pAt, mB, mCall, lenM, listM, listMC, tupleM, intM, boolM, ixM, ixV, seqOf, lstOf, Mini.cellOf, mPar, mPar3, mLc, mLcC, mFor, iSeq, Mini.iRng1, Mini.iRng2, Mini.iEnum, Mini.iZip, mIsi, isiM, tyM, mMt, mMt0, appendM, extendM, popM, catF, catF.lstM, mChain, tAll, wipeM, mdK, Prod.mk.injEq, and_assoc, List.map_cons, List.map_nil, List.length_cons, List.length_nil, List.replicate, List.cons_append, List.nil_append, List.getElem?_cons_zero, List.getElem?_cons_succ, List.set_cons_zero, List.set_cons_succ, Option.some.injEq, exists_eq_left', exists_eq_left, true_and, and_true, List.cons.injEq, MV.int.injEq, MV.bl.injEq, MV.tup.injEq, MV.fl.injEq, MV.str.injEq, MV.ref.injEq, Option.bind_some, exists_and_left, exists_const, Nat.sub_self, Nat.reduceSub, Nat.reduceAdd, List.append_nil, List.nil_append, List.length_map, Nat.add_zero, Nat.zero_add]
      refine bl_end hh ?_
      have : memberB ss (.tup xs) = false := by
        unfold memberB
        split
        · simp_all
        · rfl
      rwa [this] at k
  all_goals (simp only [getK, setK, Option.isSome_some, eqM_int, neM_int, kit_ii, kit_bi, kit_ni, kit_si, kit_ti, kit_li, kit_ib, kit_bb, kit_tt, kit_it, kit_bt, kit_nt, kit_st, kit_lt, atI0, atI1, atI2, ixN30, ixN31, ixN32, mFn, startM, mSeq, mIf, mAsg, mRet, mRetN, mDrop, mNext, gN, gT, gsCons, gsNil, gIx, mVar, mInt, mBl, mNon, mStr, mC, mOp1, mOp2, int2, plusM, addM, mulM2, negM, isM, isNotM, isNoneM, tV, tNo, tAn, Mini.tOr, mAnd, mOr, mNot, Mini.notM, Bool.not_false, Bool.not_true, Bool.false_eq_true, if_false, if_true, reduceIte, mIfE, aNil, aCons, mTup, mLst, mLstC, mSl, slM, pNo, pAt, mB, mCall, lenM, listM, listMC, tupleM, intM, boolM, ixM, ixV, seqOf, lstOf, Mini.cellOf, mPar, mPar3, mLc, mLcC, mFor, iSeq, Mini.iRng1, Mini.iRng2, Mini.iEnum, Mini.iZip, mIsi, isiM, tyM, mMt, mMt0, appendM, extendM, popM, catF, catF.lstM, mChain, tAll, wipeM, mdK, Prod.mk.injEq, and_assoc, List.map_cons, List.map_nil, List.length_cons, List.length_nil, List.replicate, List.cons_append, List.nil_append, List.getElem?_cons_zero, List.getElem?_cons_succ, List.set_cons_zero, List.set_cons_succ, Option.some.injEq, exists_eq_left', exists_eq_left, true_and, and_true, List.cons.injEq, MV.int.injEq, MV.bl.injEq, MV.tup.injEq, MV.fl.injEq, MV.str.injEq, MV.ref.injEq, Option.bind_some, exists_and_left, exists_const, Nat.sub_self, Nat.reduceSub, Nat.reduceAdd, List.append_nil, List.nil_append, List.length_map, Nat.add_zero, Nat.zero_add]; exact bl_end hh k)

open PySem.W
/-! ### waits -/
abbrev T5 := Int × Int × Int × Int × Int
def wv (p : T5) : MV := .tup [.tup [.int p.1, .int p.2.1], .tup [.int p.2.2.1, .int p.2.2.2.1], .int p.2.2.2.2]
theorem wv_inj {p q : T5} (h : wv p = wv q) : p = q := by
  obtain ⟨a, b, c, d, e⟩ := p
  obtain ⟨a', b', c', d', e'⟩ := q
  simp only [wv, MV.tup.injEq, List.cons.injEq, MV.int.injEq, and_true] at h
  obtain ⟨⟨h1, h2⟩, ⟨h3, h4⟩, h5⟩ := h
  subst h1 h2 h3 h4 h5
  rfl
def wk (p : T5) : NestedKey := .tup [.tup [.num p.1, .num p.2.1], .tup [.num p.2.2.1, .num p.2.2.2.1], .num p.2.2.2.2]
theorem wv_key (p : T5) : (wv p).key = some (wk p) := rfl
theorem wk_inj {p q : T5} (h : wk p = wk q) : p = q := by
  obtain ⟨a, b, c, d, e⟩ := p
  obtain ⟨a', b', c', d', e'⟩ := q
  simp only [wk, NestedKey.tup.injEq, List.cons.injEq, NestedKey.num.injEq, and_true] at h
  obtain ⟨⟨h1, h2⟩, ⟨h3, h4⟩, h5⟩ := h
  subst h1 h2 h3 h4 h5
  rfl
theorem wv_set (p : T5) : setOk (wv p) := ⟨_, wk p, rfl, rfl, by simp [wk, NestedKey.depth, NestedKey.depthAll], by simp [wk, nkNum, nkNumAll]⟩
theorem wv_sok (p : T5) : (wv p).sok = true := by simp [wv, MV.sok, sokAll]
theorem wv_dep (p : T5) : (wv p).dat.depth ≤ 50 := by simp [wv, MV.dat, datAll, PyData.depth, PyData.depthAll]
theorem wv_sok_all (es : List T5) : sokAll (es.map wv) = true := sokAll_iff.mpr fun x hx => by
  obtain ⟨p, _, rfl⟩ := List.mem_map.mp hx
  exact wv_sok p
theorem wv_sort {es : List T5} (hl : es.length ≤ 16777216) : SortOk (es.map wv) where
  sok := wv_sok_all es
  al := fun d hd d' hd' => by
    rw [List.map_map] at hd hd'
    obtain ⟨p, _, rfl⟩ := List.mem_map.mp hd
    obtain ⟨q, _, rfl⟩ := List.mem_map.mp hd'
    simp [wv, MV.dat, datAll, alike, alikeAll]
  so := .inl fun d hd => by
    rw [List.map_map] at hd
    obtain ⟨p, _, rfl⟩ := List.mem_map.mp hd
    exact ⟨_, _, rfl⟩
  dp := fun x hx => by
    obtain ⟨p, _, rfl⟩ := List.mem_map.mp hx
    exact wv_dep p
  len := by rw [List.length_map, sizeLine_eq]; exact hl
abbrev leW (p q : T5) : Bool := sLe (wv p) (wv q)
theorem lewv_total : TotalLe leW := by
  have h := sortLe_total (listOrd itemOrd) false (fun p : T5 => keyToks (wv p).dat)
  exact h
theorem lewv_anti {p q : T5} (h1 : leW p q = true) (h2 : leW q p = true) : p = q := by
  have e1 : PyProof.Rows.lexLt itemOrd (keyToks (wv q).dat) (keyToks (wv p).dat) = false := by
    have : (!PyProof.Rows.lexLt itemOrd (keyToks (wv q).dat) (keyToks (wv p).dat)) = true := h1
    simpa using this
  have e2 : PyProof.Rows.lexLt itemOrd (keyToks (wv p).dat) (keyToks (wv q).dat) = false := by
    have : (!PyProof.Rows.lexLt itemOrd (keyToks (wv p).dat) (keyToks (wv q).dat)) = true := h2
    simpa using this
  have e := lex_total _ _ e2 e1
  obtain ⟨a, b, c, d, e5⟩ := p
  obtain ⟨a', b', c', d', e5'⟩ := q
  simp [wv, MV.dat, datAll, keyToks, keyToksAll] at e
  obtain ⟨q1, q2, q3, q4, q5⟩ := e
  subst q1 q2 q3 q4 q5
  rfl
def srt (es : List T5) : List T5 := es.mergeSort leW
theorem srt_W (es : List T5) : (es.map wv).mergeSort sLe = (srt es).map wv := (sort_maps wv fun a _ b _ => rfl).symm
theorem srt_perm {es fs : List T5} (p : es.Perm fs) : srt es = srt fs :=
  eq_of_sorted (le := fun a b => leW a b = true) (fun a b => lewv_anti) (((List.mergeSort_perm es leW).trans p).trans (List.mergeSort_perm fs leW).symm) (sort_pairwise lewv_total es) (sort_pairwise lewv_total fs)

/-- sorted(set(ws)) -/
def asc (es : List T5) : List T5 := srt es.eraseDups
theorem pre_wv {es : List T5} : ∀ {zs : List MV}, (∀ z ∈ zs, z ∈ es.map wv) → ∃ fs : List T5, zs = fs.map wv ∧ ∀ f ∈ fs, f ∈ es
  | [], _ => ⟨[], rfl, fun _ h => nomatch h⟩
  | z :: zs, h => by
    obtain ⟨fs, e, hf⟩ := pre_wv fun y hy => h y (List.mem_cons_of_mem _ hy)
    obtain ⟨p, hp, rfl⟩ := List.mem_map.mp (h z List.mem_cons_self)
    refine ⟨p :: fs, by rw [e] <;> rfl, fun f hf' => ?_⟩
    rcases List.mem_cons.mp hf' with e | hf'
    · rw [e]; exact hp
    · exact hf f hf'
theorem wv_keys (fs : List T5) : (fs.map wv).map MV.key = fs.map fun p => some (wk p) := by rw [List.map_map] <;> rfl
theorem nodup_eraseDups (es : List T5) : es.eraseDups.Nodup := by
  have key : ∀ (n : Nat) (es : List T5), es.length ≤ n → es.eraseDups.Nodup := by
    intro n
    induction n with
    | zero => intro es h; rw [List.eq_nil_of_length_eq_zero (Nat.le_zero.mp h)]; simp
    | succ n ih =>
      intro es h
      cases es with
      | nil => simp
      | cons a es =>
        rw [List.eraseDups_cons, List.nodup_cons]
        refine ⟨fun hm => ?_, ih _ (Nat.le_trans (List.length_filter_le _ _) (by simpa using h))⟩
        have := List.mem_eraseDups.mp hm
        simp at this
  exact key es.length es (Nat.le_refl _)
theorem set_run {es : List T5} {v : MV} {h : MHp} (hv : seqOf h v = some (es.map wv)) (hl : es.length < 64) {R : MQ} (k : R (.fl ((asc es).map wv)) h) : setM [v] h (fun z h1 => sortSetM [z] h1 R) := by
  refine ⟨v, es.map wv, rfl, hv, by rw [List.length_map]; exact hl, fun x hx => ?_, fun zs h1 h2 h3 h4 => ⟨_, zs, rfl, rfl, ?_, fun ys pm => ?_⟩⟩
  · obtain ⟨p, _, rfl⟩ := List.mem_map.mp hx
    exact wv_set p
  · obtain ⟨fs, rfl, hf⟩ := pre_wv h1
    exact wv_sort (by rw [List.length_map, List.length_map] at h4; omega)
  · obtain ⟨fs, rfl, hf⟩ := pre_wv h1
    obtain ⟨gs, rfl, hg⟩ := pre_wv (es := fs) fun z hz => pm.mem_iff.mp hz
    rw [srt_W]
    have e : srt gs = asc es := by
      refine srt_perm ?_
      have nf : fs.Nodup := by
        rw [wv_keys] at h3
        exact (List.pairwise_map.mp h3).imp fun hne e => hne (by rw [e])
      have p2 : gs.Perm fs := by
        have kk := pm.map MV.key
        rw [wv_keys, wv_keys] at kk
        have ng : gs.Nodup := by
          have : (gs.map fun p => some (wk p)).Nodup := kk.nodup_iff.mpr (by rw [← wv_keys]; exact h3)
          exact (List.pairwise_map.mp this).imp fun hne e => hne (by rw [e])
        refine (List.perm_ext_iff_of_nodup ng nf).mpr fun p => ⟨hg p, fun hp => ?_⟩
        have : wv p ∈ gs.map wv := pm.mem_iff.mpr (List.mem_map.mpr ⟨p, hp, rfl⟩)
        obtain ⟨q, hq, e⟩ := List.mem_map.mp this
        rwa [← wv_inj e]
      refine p2.trans ((List.perm_ext_iff_of_nodup nf (nodup_eraseDups es)).mpr fun p => ⟨fun hp => List.mem_eraseDups.mpr (hf p hp), fun hp => ?_⟩)
      have hm := h2 (wv p) (List.mem_map.mpr ⟨p, List.mem_eraseDups.mp hp, rfl⟩)
      rw [wv_keys] at hm
      obtain ⟨q, hq, e⟩ := List.mem_map.mp hm
      have : wk q = wk p := by rw [wv_key] at e; exact Option.some.inj e
      rwa [← wk_inj this]
    rw [e]
    exact k
theorem wv_eqv (p q : T5) : (wv p).eqv (wv q) = decide (p = q) := by
  obtain ⟨a, b, c, d, e⟩ := p
  obtain ⟨a', b', c', d', e'⟩ := q
  simp only [wv, MV.eqv, eqvAll, List.isEmpty_nil, Bool.and_true, Prod.mk.injEq]
  by_cases h1 : a = a' <;> by_cases h2 : b = b' <;> by_cases h3 : c = c' <;> by_cases h4 : d = d' <;> by_cases h5 : e = e' <;> simp [h1, h2, h3, h4, h5]
theorem wv_eqvAll : ∀ es fs : List T5, eqvAll (es.map wv) (fs.map wv) = decide (es = fs)
  | [], [] => rfl
  | [], _ :: _ => by simp [eqvAll]
  | _ :: _, [] => by simp [eqvAll]
  | p :: es, q :: fs => by
    simp only [List.map_cons, eqvAll, wv_eqv, wv_eqvAll es fs, List.cons.injEq]
    by_cases h1 : p = q <;> by_cases h2 : es = fs <;> simp [h1, h2]
theorem wv_depn (p : T5) : (wv p).dep = 2 := by simp [wv, MV.dep, depAll]
theorem wv_depAll : ∀ es : List T5, depAll (es.map wv) ≤ 2
  | [] => by simp [depAll]
  | p :: es => by
    simp only [List.map_cons, depAll, wv_depn]
    have := wv_depAll es
    omega
theorem wv_okL (es : List T5) : (MV.fl (es.map wv)).ok = true := by
  have := wv_depAll es
  have e1 : (MV.fl (es.map wv)).sok = true := by simp only [MV.sok]; exact wv_sok_all es
  have e2 : (MV.fl (es.map wv)).dep ≤ 60 := by simp only [MV.dep]; omega
  unfold MV.ok
  rw [e1, decide_eq_true e2] <;> rfl
theorem eq_wv {es fs : List T5} {h : MHp} {Q : MQ} (k : Q (.bl (decide (es = fs))) h) : eqM (.fl (es.map wv)) (.fl (fs.map wv)) h Q := by
  refine .inr ⟨wv_okL es, wv_okL fs, ?_⟩
  show Q (.bl (eqvAll (es.map wv) (fs.map wv))) h
  rw [wv_eqvAll]
  exact k
theorem ascending_ok {es : List T5} (hl : es.length < 64) {h : MHp} (hh : Hh h) {Q E : MQ} (k : Q (.bl (decide (es = asc es))) h) : f_is_ascending [.tup (es.map wv)] h Q E := by
  simp only [f_is_ascending, b_is_ascending, getK, setK, Option.isSome_some, eqM_int, neM_int, kit_ii, kit_bi, kit_ni, kit_si, kit_ti, kit_li, kit_ib, kit_bb, kit_tt, kit_it, kit_bt, kit_nt, kit_st, kit_lt, atI0, atI1, atI2, ixN30, ixN31, ixN32, mFn, startM, mSeq, mIf, mAsg, mRet, mRetN, mDrop, mNext, gN, gT, gsCons, gsNil, gIx, mVar, mInt, mBl, mNon, mStr, mC, mOp1, mOp2, int2, plusM, addM, mulM2, negM, isM, isNotM, isNoneM, tV, tNo, tAn, Mini.tOr, mAnd, mOr, mNot, Mini.notM, Bool.not_false, Bool.not_true, Bool.false_eq_true, if_false, if_true, reduceIte, mIfE, aNil, aCons, mTup, mLst, mLstC, mSl, slM, pNo, pAt, mB, mCall, lenM, listM, listMC, tupleM, intM, boolM, ixM, ixV, seqOf, lstOf, Mini.cellOf, mPar, mPar3, mLc, mLcC, mFor, iSeq, Mini.iRng1, Mini.iRng2, Mini.iEnum, Mini.iZip, mIsi, isiM, tyM, mMt, mMt0, appendM, extendM, popM, catF, catF.lstM, mChain, tAll, wipeM, mdK, Prod.mk.injEq, and_assoc, List.map_cons, List.map_nil, List.length_cons, List.length_nil, List.replicate, List.cons_append, List.nil_append, List.getElem?_cons_zero, List.getElem?_cons_succ, List.set_cons_zero, List.set_cons_succ, Option.some.injEq, exists_eq_left', exists_eq_left, true_and, and_true, List.cons.injEq, MV.int.injEq, MV.bl.injEq, MV.tup.injEq, MV.fl.injEq, MV.str.injEq, MV.ref.injEq, Option.bind_some, exists_and_left, exists_const, Nat.sub_self, Nat.reduceSub, Nat.reduceAdd, List.append_nil, List.nil_append, List.length_map, Nat.add_zero, Nat.zero_add]
  refine set_run rfl hl ?_
  exact eq_wv (bl_end hh k)

def hd (v : MV) : Int := match v with
  | .tup (.int i :: _) => i
  | _ => 0
def waitB (ss : List Int) (v : MV) : Bool := match v with
  | .tup [a, b, c] => memberB ss a && (memberB ss b && ((!(hd a == hd b)) && wholeB c 0 3))
  | _ => false
theorem wholeB_int {v : MV} {lo hi : Int} (h : wholeB v lo hi = true) : ∃ i, v = .int i ∧ lo ≤ i ∧ i ≤ hi := by
  cases v <;> first | (simp [wholeB] at h; done) | skip
  case int i =>
    simp only [wholeB, Bool.and_eq_true, decide_eq_true_eq] at h
    exact ⟨i, rfl, h.1, h.2⟩
theorem memberB_shape {ss : List Int} {v : MV} (h : memberB ss v = true) : ∃ i j, v = .tup [.int i, .int j] ∧ 0 ≤ i ∧ i ≤ (ss.length : Int) - 1 ∧ 0 ≤ j ∧ j ≤ ss.getD i.toNat 0 - 1 := by
  unfold memberB at h
  split at h
  · simp only [Bool.and_eq_true, decide_eq_true_eq] at h
    obtain ⟨j, rfl, h3, h4⟩ := wholeB_int h.2
    exact ⟨_, j, rfl, h.1.1, h.1.2, h3, h4⟩
  · simp at h
theorem waitB_len {ss : List Int} {xs : List MV} (h : xs.length ≠ 3) : waitB ss (.tup xs) = false := by
  unfold waitB
  split
  · simp_all
  · rfl
theorem linked_ok {ss : List Int} {v : MV} {h : MHp} (hh : Hh h) (hv : v.sok = true) {Q E : MQ} (k : Q (.bl (waitB ss v)) h) : f_is_linked_wait [.tup (ss.map .int), v] h Q E := by
  simp only [f_is_linked_wait, b_is_linked_wait, getK, setK, Option.isSome_some, eqM_int, neM_int, kit_ii, kit_bi, kit_ni, kit_si, kit_ti, kit_li, kit_ib, kit_bb, kit_tt, kit_it, kit_bt, kit_nt, kit_st, kit_lt, atI0, atI1, atI2, ixN30, ixN31, ixN32, mFn, startM, mSeq, mIf, mAsg, mRet, mRetN, mDrop, mNext, gN, gT, gsCons, gsNil, gIx, mVar, mInt, mBl, mNon, mStr, mC, mOp1, mOp2, int2, plusM, addM, mulM2, negM, isM, isNotM, isNoneM, tV, tNo, tAn, Mini.tOr, mAnd, mOr, mNot, Mini.notM, Bool.not_false, Bool.not_true, Bool.false_eq_true, if_false, if_true, reduceIte, mIfE, aNil, aCons, mTup, mLst, mLstC, mSl, slM, pNo, pAt, mB, mCall, lenM, listM, listMC, tupleM, intM, boolM, ixM, ixV, seqOf, lstOf, Mini.cellOf, mPar, mPar3, mLc, mLcC, mFor, iSeq, Mini.iRng1, Mini.iRng2, Mini.iEnum, Mini.iZip, mIsi, isiM, tyM, mMt, mMt0, appendM, extendM, popM, catF, catF.lstM, mChain, tAll, wipeM, mdK, Prod.mk.injEq, and_assoc, List.map_cons, List.map_nil, List.length_cons, List.length_nil, List.replicate, List.cons_append, List.nil_append, List.getElem?_cons_zero, List.getElem?_cons_succ, List.set_cons_zero, List.set_cons_succ, Option.some.injEq, exists_eq_left', exists_eq_left, true_and, and_true, List.cons.injEq, MV.int.injEq, MV.bl.injEq, MV.tup.injEq, MV.fl.injEq, MV.str.injEq, MV.ref.injEq, Option.bind_some, exists_and_left, exists_const, Nat.sub_self, Nat.reduceSub, Nat.reduceAdd, List.append_nil, List.nil_append, List.length_map, Nat.add_zero, Nat.zero_add]
  cases v <;> first | (simp [MV.sok] at hv; done) | skip
  case tup xs =>
    simp only [getK, setK, Option.isSome_some, eqM_int, neM_int, kit_ii, kit_bi, kit_ni, kit_si, kit_ti, kit_li, kit_ib, kit_bb, kit_tt, kit_it, kit_bt, kit_nt, kit_st, kit_lt, atI0, atI1, atI2, ixN30, ixN31, ixN32, mFn, startM, mSeq, mIf, mAsg, mRet, mRetN, mDrop, mNext, gN, gT, gsCons, gsNil, gIx, mVar, mInt, mBl, mNon, mStr, mC, mOp1, mOp2, int2, plusM, addM, mulM2, negM, isM, isNotM, isNoneM, tV, tNo, tAn, Mini.tOr, mAnd, mOr, mNot, Mini.notM, Bool.not_false, Bool.not_true, Bool.false_eq_true, if_false, if_true, reduceIte, mIfE, aNil, aCons, mTup, mLst, mLstC, mSl, slM, pNo, pAt, mB, mCall, lenM, listM, listMC, tupleM, intM, boolM, ixM, ixV, seqOf, lstOf, Mini.cellOf, mPar, mPar3, mLc, mLcC, mFor, iSeq, Mini.iRng1, Mini.iRng2, Mini.iEnum, Mini.iZip, mIsi, isiM, tyM, mMt, mMt0, appendM, extendM, popM, catF, catF.lstM, mChain, tAll, wipeM, mdK, Prod.mk.injEq, and_assoc, List.map_cons, List.map_nil, List.length_cons, List.length_nil, List.replicate, List.cons_append, List.nil_append, List.getElem?_cons_zero, List.getElem?_cons_succ, List.set_cons_zero, List.set_cons_succ, Option.some.injEq, exists_eq_left', exists_eq_left, true_and, and_true, List.cons.injEq, MV.int.injEq, MV.bl.injEq, MV.tup.injEq, MV.fl.injEq, MV.str.injEq, MV.ref.injEq, Option.bind_some, exists_and_left, exists_const, Nat.sub_self, Nat.reduceSub, Nat.reduceAdd, List.append_nil, List.nil_append, List.length_map, Nat.add_zero, Nat.zero_add]
    by_cases hl : xs.length = 3
    · obtain ⟨a, b, c, rfl⟩ := len3 hl
      obtain ⟨ha, hb, hc⟩ := sok3 hv
      simp only [getK, setK, Option.isSome_some, eqM_int, neM_int, kit_ii, kit_bi, kit_ni, kit_si, kit_ti, kit_li, kit_ib, kit_bb, kit_tt, kit_it, kit_bt, kit_nt, kit_st, kit_lt, atI0, atI1, atI2, ixN30, ixN31, ixN32, mFn, startM, mSeq, mIf, mAsg, mRet, mRetN, mDrop, mNext, gN, gT, gsCons, gsNil, gIx, mVar, mInt, mBl, mNon, mStr, mC, mOp1, mOp2, int2, plusM, addM, mulM2, negM, isM, isNotM, isNoneM, tV, tNo, tAn, Mini.tOr, mAnd, mOr, mNot, Mini.notM, Bool.not_false, Bool.not_true, Bool.false_eq_true, if_false, if_true, reduceIte, mIfE, aNil, aCons, mTup, mLst, mLstC, mSl, slM, pNo, pAt, mB, mCall, lenM, listM, listMC, tupleM, intM, boolM, ixM, ixV, seqOf, lstOf, Mini.cellOf, mPar, mPar3, mLc, mLcC, mFor, iSeq, Mini.iRng1, Mini.iRng2, Mini.iEnum, Mini.iZip, mIsi, isiM, tyM, mMt, mMt0, appendM, extendM, popM, catF, catF.lstM, mChain, tAll, wipeM, mdK, Prod.mk.injEq, and_assoc, List.map_cons, List.map_nil, List.length_cons, List.length_nil, List.replicate, List.cons_append, List.nil_append, List.getElem?_cons_zero, List.getElem?_cons_succ, List.set_cons_zero, List.set_cons_succ, Option.some.injEq, exists_eq_left', exists_eq_left, true_and, and_true, List.cons.injEq, MV.int.injEq, MV.bl.injEq, MV.tup.injEq, MV.fl.injEq, MV.str.injEq, MV.ref.injEq, Option.bind_some, exists_and_left, exists_const, Nat.sub_self, Nat.reduceSub, Nat.reduceAdd, List.append_nil, List.nil_append, List.length_map, Nat.add_zero, Nat.zero_add]
      rw [if_neg (by decide)]
      refine job_ok hh ha ⟨_, rfl, ?_⟩
      cases m1 : memberB ss a with
      | false =>
        simp only [getK, setK, Option.isSome_some, eqM_int, neM_int, kit_ii, kit_bi, kit_ni, kit_si, kit_ti, kit_li, kit_ib, kit_bb, kit_tt, kit_it, kit_bt, kit_nt, kit_st, kit_lt, atI0, atI1, atI2, ixN30, ixN31, ixN32, mFn, startM, mSeq, mIf, mAsg, mRet, mRetN, mDrop, mNext, gN, gT, gsCons, gsNil, gIx, mVar, mInt, mBl, mNon, mStr, mC, mOp1, mOp2, int2, plusM, addM, mulM2, negM, isM, isNotM, isNoneM, tV, tNo, tAn, Mini.tOr, mAnd, mOr, mNot, Mini.notM, Bool.not_false, Bool.not_true, Bool.false_eq_true, if_false, if_true, reduceIte, mIfE, aNil, aCons, mTup, mLst, mLstC, mSl, slM, pNo, pAt, mB, mCall, lenM, listM, listMC, tupleM, intM, boolM, ixM, ixV, seqOf, lstOf, Mini.cellOf, mPar, mPar3, mLc, mLcC, mFor, iSeq, Mini.iRng1, Mini.iRng2, Mini.iEnum, Mini.iZip, mIsi, isiM, tyM, mMt, mMt0, appendM, extendM, popM, catF, catF.lstM, mChain, tAll, wipeM, mdK, Prod.mk.injEq, and_assoc, List.map_cons, List.map_nil, List.length_cons, List.length_nil, List.replicate, List.cons_append, List.nil_append, List.getElem?_cons_zero, List.getElem?_cons_succ, List.set_cons_zero, List.set_cons_succ, Option.some.injEq, exists_eq_left', exists_eq_left, true_and, and_true, List.cons.injEq, MV.int.injEq, MV.bl.injEq, MV.tup.injEq, MV.fl.injEq, MV.str.injEq, MV.ref.injEq, Option.bind_some, exists_and_left, exists_const, Nat.sub_self, Nat.reduceSub, Nat.reduceAdd, List.append_nil, List.nil_append, List.length_map, Nat.add_zero, Nat.zero_add]
        refine bl_end hh ?_
        simpa only [waitB, m1, Bool.false_and] using k
      | true =>
        simp only [getK, setK, Option.isSome_some, eqM_int, neM_int, kit_ii, kit_bi, kit_ni, kit_si, kit_ti, kit_li, kit_ib, kit_bb, kit_tt, kit_it, kit_bt, kit_nt, kit_st, kit_lt, atI0, atI1, atI2, ixN30, ixN31, ixN32, mFn, startM, mSeq, mIf, mAsg, mRet, mRetN, mDrop, mNext, gN, gT, gsCons, gsNil, gIx, mVar, mInt, mBl, mNon, mStr, mC, mOp1, mOp2, int2, plusM, addM, mulM2, negM, isM, isNotM, isNoneM, tV, tNo, tAn, Mini.tOr, mAnd, mOr, mNot, Mini.notM, Bool.not_false, Bool.not_true, Bool.false_eq_true, if_false, if_true, reduceIte, mIfE, aNil, aCons, mTup, mLst, mLstC, mSl, slM, pNo, pAt, mB, mCall, lenM, listM, listMC, tupleM, intM, boolM, ixM, ixV, seqOf, lstOf, Mini.cellOf, mPar, mPar3, mLc, mLcC, mFor, iSeq, Mini.iRng1, Mini.iRng2, Mini.iEnum, Mini.iZip, mIsi, isiM, tyM, mMt, mMt0, appendM, extendM, popM, catF, catF.lstM, mChain, tAll, wipeM, mdK, Prod.mk.injEq, and_assoc, List.map_cons, List.map_nil, List.length_cons, List.length_nil, List.replicate, List.cons_append, List.nil_append, List.getElem?_cons_zero, List.getElem?_cons_succ, List.set_cons_zero, List.set_cons_succ, Option.some.injEq, exists_eq_left', exists_eq_left, true_and, and_true, List.cons.injEq, MV.int.injEq, MV.bl.injEq, MV.tup.injEq, MV.fl.injEq, MV.str.injEq, MV.ref.injEq, Option.bind_some, exists_and_left, exists_const, Nat.sub_self, Nat.reduceSub, Nat.reduceAdd, List.append_nil, List.nil_append, List.length_map, Nat.add_zero, Nat.zero_add]
        refine job_ok hh hb ⟨_, rfl, ?_⟩
        cases m2 : memberB ss b with
        | false =>
          simp only [getK, setK, Option.isSome_some, eqM_int, neM_int, kit_ii, kit_bi, kit_ni, kit_si, kit_ti, kit_li, kit_ib, kit_bb, kit_tt, kit_it, kit_bt, kit_nt, kit_st, kit_lt, atI0, atI1, atI2, ixN30, ixN31, ixN32, mFn, startM, mSeq, mIf, mAsg, mRet, mRetN, mDrop, mNext, gN, gT, gsCons, gsNil, gIx, mVar, mInt, mBl, mNon, mStr, mC, mOp1, mOp2, int2, plusM, addM, mulM2, negM, isM, isNotM, isNoneM, tV, tNo, tAn, Mini.tOr, mAnd, mOr, mNot, Mini.notM, Bool.not_false, Bool.not_true, Bool.false_eq_true, if_false, if_true, reduceIte, mIfE, aNil, aCons, mTup, mLst, mLstC, mSl, slM, pNo, pAt, mB, mCall, lenM, listM, listMC, tupleM, intM, boolM, ixM, ixV, seqOf, lstOf, Mini.cellOf, mPar, mPar3, mLc, mLcC, mFor, iSeq, Mini.iRng1, Mini.iRng2, Mini.iEnum, Mini.iZip, mIsi, isiM, tyM, mMt, mMt0, appendM, extendM, popM, catF, catF.lstM, mChain, tAll, wipeM, mdK, Prod.mk.injEq, and_assoc, List.map_cons, List.map_nil, List.length_cons, List.length_nil, List.replicate, List.cons_append, List.nil_append, List.getElem?_cons_zero, List.getElem?_cons_succ, List.set_cons_zero, List.set_cons_succ, Option.some.injEq, exists_eq_left', exists_eq_left, true_and, and_true, List.cons.injEq, MV.int.injEq, MV.bl.injEq, MV.tup.injEq, MV.fl.injEq, MV.str.injEq, MV.ref.injEq, Option.bind_some, exists_and_left, exists_const, Nat.sub_self, Nat.reduceSub, Nat.reduceAdd, List.append_nil, List.nil_append, List.length_map, Nat.add_zero, Nat.zero_add]
          refine bl_end hh ?_
          simpa only [waitB, m1, m2, Bool.true_and, Bool.false_and] using k
        | true =>
          obtain ⟨i, j, rfl, _⟩ := memberB_shape m1
          obtain ⟨i', j', rfl, _⟩ := memberB_shape m2
          simp only [getK, setK, Option.isSome_some, eqM_int, neM_int, kit_ii, kit_bi, kit_ni, kit_si, kit_ti, kit_li, kit_ib, kit_bb, kit_tt, kit_it, kit_bt, kit_nt, kit_st, kit_lt, atI0, atI1, atI2, ixN30, ixN31, ixN32, mFn, startM, mSeq, mIf, mAsg, mRet, mRetN, mDrop, mNext, gN, gT, gsCons, gsNil, gIx, mVar, mInt, mBl, mNon, mStr, mC, mOp1, mOp2, int2, plusM, addM, mulM2, negM, isM, isNotM, isNoneM, tV, tNo, tAn, Mini.tOr, mAnd, mOr, mNot, Mini.notM, Bool.not_false, Bool.not_true, Bool.false_eq_true, if_false, if_true, reduceIte, mIfE, aNil, aCons, mTup, mLst, mLstC, mSl, slM, pNo, pAt, mB, mCall, lenM, listM, listMC, tupleM, intM, boolM, ixM, ixV, seqOf, lstOf, Mini.cellOf, mPar, mPar3, mLc, mLcC, mFor, iSeq, Mini.iRng1, Mini.iRng2, Mini.iEnum, Mini.iZip, mIsi, isiM, tyM, mMt, mMt0, appendM, extendM, popM, catF, catF.lstM, mChain, tAll, wipeM, mdK, Prod.mk.injEq, and_assoc, List.map_cons, List.map_nil, List.length_cons, List.length_nil, List.replicate, List.cons_append, List.nil_append, List.getElem?_cons_zero, List.getElem?_cons_succ, List.set_cons_zero, List.set_cons_succ, Option.some.injEq, exists_eq_left', exists_eq_left, true_and, and_true, List.cons.injEq, MV.int.injEq, MV.bl.injEq, MV.tup.injEq, MV.fl.injEq, MV.str.injEq, MV.ref.injEq, Option.bind_some, exists_and_left, exists_const, Nat.sub_self, Nat.reduceSub, Nat.reduceAdd, List.append_nil, List.nil_append, List.length_map, Nat.add_zero, Nat.zero_add]
          have k' := k
          simp only [waitB, m1, m2, hd, Bool.true_and] at k'
          cases e : (i == i') with
          | true =>
            simp only [getK, setK, Option.isSome_some, eqM_int, neM_int, kit_ii, kit_bi, kit_ni, kit_si, kit_ti, kit_li, kit_ib, kit_bb, kit_tt, kit_it, kit_bt, kit_nt, kit_st, kit_lt, atI0, atI1, atI2, ixN30, ixN31, ixN32, mFn, startM, mSeq, mIf, mAsg, mRet, mRetN, mDrop, mNext, gN, gT, gsCons, gsNil, gIx, mVar, mInt, mBl, mNon, mStr, mC, mOp1, mOp2, int2, plusM, addM, mulM2, negM, isM, isNotM, isNoneM, tV, tNo, tAn, Mini.tOr, mAnd, mOr, mNot, Mini.notM, Bool.not_false, Bool.not_true, Bool.false_eq_true, if_false, if_true, reduceIte, mIfE, aNil, aCons, mTup, mLst, mLstC, mSl, slM, pNo, pAt, mB, mCall, lenM, listM, listMC, tupleM, intM, boolM, ixM, ixV, seqOf, lstOf, Mini.cellOf, mPar, mPar3, mLc, mLcC, mFor, iSeq, Mini.iRng1, Mini.iRng2, Mini.iEnum, Mini.iZip, mIsi, isiM, tyM, mMt, mMt0, appendM, extendM, popM, catF, catF.lstM, mChain, tAll, wipeM, mdK, Prod.mk.injEq, and_assoc, List.map_cons, List.map_nil, List.length_cons, List.length_nil, List.replicate, List.cons_append, List.nil_append, List.getElem?_cons_zero, List.getElem?_cons_succ, List.set_cons_zero, List.set_cons_succ, Option.some.injEq, exists_eq_left', exists_eq_left, true_and, and_true, List.cons.injEq, MV.int.injEq, MV.bl.injEq, MV.tup.injEq, MV.fl.injEq, MV.str.injEq, MV.ref.injEq, Option.bind_some, exists_and_left, exists_const, Nat.sub_self, Nat.reduceSub, Nat.reduceAdd, List.append_nil, List.nil_append, List.length_map, Nat.add_zero, Nat.zero_add]
            refine bl_end hh ?_
            simpa only [e, Bool.not_true, Bool.false_and] using k'
          | false =>
            simp only [getK, setK, Option.isSome_some, eqM_int, neM_int, kit_ii, kit_bi, kit_ni, kit_si, kit_ti, kit_li, kit_ib, kit_bb, kit_tt, kit_it, kit_bt, kit_nt, kit_st, kit_lt, atI0, atI1, atI2, ixN30, ixN31, ixN32, mFn, startM, mSeq, mIf, mAsg, mRet, mRetN, mDrop, mNext, gN, gT, gsCons, gsNil, gIx, mVar, mInt, mBl, mNon, mStr, mC, mOp1, mOp2, int2, plusM, addM, mulM2, negM, isM, isNotM, isNoneM, tV, tNo, tAn, Mini.tOr, mAnd, mOr, mNot, Mini.notM, Bool.not_false, Bool.not_true, Bool.false_eq_true, if_false, if_true, reduceIte, mIfE, aNil, aCons, mTup, mLst, mLstC, mSl, slM, pNo, pAt, mB, mCall, lenM, listM, listMC, tupleM, intM, boolM, ixM, ixV, seqOf, lstOf, Mini.cellOf, mPar, mPar3, mLc, mLcC, mFor, iSeq, Mini.iRng1, Mini.iRng2, Mini.iEnum, Mini.iZip, mIsi, isiM, tyM, mMt, mMt0, appendM, extendM, popM, catF, catF.lstM, mChain, tAll, wipeM, mdK, Prod.mk.injEq, and_assoc, List.map_cons, List.map_nil, List.length_cons, List.length_nil, List.replicate, List.cons_append, List.nil_append, List.getElem?_cons_zero, List.getElem?_cons_succ, List.set_cons_zero, List.set_cons_succ, Option.some.injEq, exists_eq_left', exists_eq_left, true_and, and_true, List.cons.injEq, MV.int.injEq, MV.bl.injEq, MV.tup.injEq, MV.fl.injEq, MV.str.injEq, MV.ref.injEq, Option.bind_some, exists_and_left, exists_const, Nat.sub_self, Nat.reduceSub, Nat.reduceAdd, List.append_nil, List.nil_append, List.length_map, Nat.add_zero, Nat.zero_add]
            refine between_ok hh hc (bl_end hh ?_)
            simpa only [e, Bool.not_false, Bool.true_and] using k'
    · have e : ((xs.length : Int) == 3) = false := by simp; omega
      simp only [e, getK, setK, Option.isSome_some, eqM_int, neM_int, kit_ii, kit_bi, kit_ni, kit_si, kit_ti, kit_li, kit_ib, kit_bb, kit_tt, kit_it, kit_bt, kit_nt, kit_st, kit_lt, atI0, atI1, atI2, ixN30, ixN31, ixN32, mFn, startM, mSeq, mIf, mAsg, mRet, mRetN, mDrop, mNext, gN, gT, gsCons, gsNil, gIx, mVar, mInt, mBl, mNon, mStr, mC, mOp1, mOp2, int2, plusM, addM, mulM2, negM, isM, isNotM, isNoneM, tV, tNo, tAn, Mini.tOr, mAnd, mOr, mNot, Mini.notM, Bool.not_false, Bool.not_true, Bool.false_eq_true, if_false, if_true, reduceIte, mIfE, aNil, aCons, mTup, mLst, mLstC, mSl, slM, pNo, pAt, mB, mCall, lenM, listM, listMC, tupleM, intM, boolM, ixM, ixV, seqOf, lstOf, Mini.cellOf, mPar, mPar3, mLc, mLcC, mFor, iSeq, Mini.iRng1, Mini.iRng2, Mini.iEnum, Mini.iZip, mIsi, isiM, tyM, mMt, mMt0, appendM, extendM, popM, catF, catF.lstM, mChain, tAll, wipeM, mdK, Prod.mk.injEq, and_assoc, List.map_cons, List.map_nil, List.length_cons, List.length_nil, List.replicate, List.cons_append, List.nil_append, List.getElem?_cons_zero, List.getElem?_cons_succ, List.set_cons_zero, List.set_cons_succ, Option.some.injEq, exists_eq_left', exists_eq_left, true_and, and_true, List.cons.injEq, MV.int.injEq, MV.bl.injEq, MV.tup.injEq, MV.fl.injEq, MV.str.injEq, MV.ref.injEq, Option.bind_some, exists_and_left, exists_const, Nat.sub_self, Nat.reduceSub, Nat.reduceAdd, List.append_nil, List.nil_append, List.length_map, Nat.add_zero, Nat.zero_add]
      refine bl_end hh ?_
      rwa [waitB_len hl] at k
  all_goals (simp only [getK, setK, Option.isSome_some, eqM_int, neM_int, kit_ii, kit_bi, kit_ni, kit_si, kit_ti, kit_li, kit_ib, kit_bb, kit_tt, kit_it, kit_bt, kit_nt, kit_st, kit_lt, atI0, atI1, atI2, ixN30, ixN31, ixN32, mFn, startM, mSeq, mIf, mAsg, mRet, mRetN, mDrop, mNext, gN, gT, gsCons, gsNil, gIx, mVar, mInt, mBl, mNon, mStr, mC, mOp1, mOp2, int2, plusM, addM, mulM2, negM, isM, isNotM, isNoneM, tV, tNo, tAn, Mini.tOr, mAnd, mOr, mNot, Mini.notM, Bool.not_false, Bool.not_true, Bool.false_eq_true, if_false, if_true, reduceIte, mIfE, aNil, aCons, mTup, mLst, mLstC, mSl, slM, pNo, pAt, mB, mCall, lenM, listM, listMC, tupleM, intM, boolM, ixM, ixV, seqOf, lstOf, Mini.cellOf, mPar, mPar3, mLc, mLcC, mFor, iSeq, Mini.iRng1, Mini.iRng2, Mini.iEnum, Mini.iZip, mIsi, isiM, tyM, mMt, mMt0, appendM, extendM, popM, catF, catF.lstM, mChain, tAll, wipeM, mdK, Prod.mk.injEq, and_assoc, List.map_cons, List.map_nil, List.length_cons, List.length_nil, List.replicate, List.cons_append, List.nil_append, List.getElem?_cons_zero, List.getElem?_cons_succ, List.set_cons_zero, List.set_cons_succ, Option.some.injEq, exists_eq_left', exists_eq_left, true_and, and_true, List.cons.injEq, MV.int.injEq, MV.bl.injEq, MV.tup.injEq, MV.fl.injEq, MV.str.injEq, MV.ref.injEq, Option.bind_some, exists_and_left, exists_const, Nat.sub_self, Nat.reduceSub, Nat.reduceAdd, List.append_nil, List.nil_append, List.length_map, Nat.add_zero, Nat.zero_add]; exact bl_end hh k)
/-- the law's walk over the waits -/
def lp : MS := (mSeq (mIf (tOr (tNo (tV (mIsi "tuple" (mVar 1)))) (tOr (tV (mOp2 neM (mB lenM (aCons (mVar 1) aNil)) (mInt 3))) (tNo (tV (mCall f__law_is_whole (aCons (mOp2 ixM (mVar 1) (mInt 2)) (aCons (mInt 0) (aCons (mInt 3) aNil)))))))) (mRet (mBl false)) mNext)
    (mIf (tOr (tNo (tV (mCall f__law_is_member (aCons (mVar 2) (aCons (mOp2 ixM (mVar 1) (mInt 0)) aNil))))) (tOr (tNo (tV (mCall f__law_is_member (aCons (mVar 2) (aCons (mOp2 ixM (mVar 1) (mInt 1)) aNil))))) (tV (mOp2 eqM (mOp2 ixM (mOp2 ixM (mVar 1) (mInt 0)) (mInt 0)) (mOp2 ixM (mOp2 ixM (mVar 1) (mInt 1)) (mInt 0)))))) (mRet (mBl false)) mNext))
theorem loop_ok {ss : List Int} {h : MHp} (hh : Hh h) {D : MD} {s0 s2 s3 s4 : Option MV} (e2 : s2 = some (.tup (ss.map .int))) : ∀ (ws : List MV) (s1 : Option MV), sokAll ws = true →
    (ws.all (waitB ss) = true → ∀ s1, D.nx [s0, s1, s2, s3, s4] h) → (ws.all (waitB ss) = false → D.rt (.bl false) h) → forM (fun _ => True) (gN 1) lp ws [s0, s1, s2, s3, s4] h D
  | [], s1, _, hn, _ => ⟨trivial, hn rfl s1⟩
  | w :: ws, s1, hs, hn, hf => by
    subst e2
    simp only [sokAll, Bool.and_eq_true] at hs
    have ih := loop_ok (ss := ss) hh (D := D) (s0 := s0) (s3 := s3) (s4 := s4) rfl ws
    have bad : waitB ss w = false → D.rt (.bl false) h := fun e => hf (by rw [List.all_cons, e] <;> rfl)
    have good : waitB ss w = true → forM (fun _ => True) (gN 1) lp ws [s0, some w, some (.tup (ss.map .int)), s3, s4] h D := fun e => by
      refine ih (some w) hs.2 (fun a => hn ?_) (fun a => hf ?_)
      · rw [List.all_cons, e, a] <;> rfl
      · rw [List.all_cons, e, a] <;> rfl
    clear ih hn hf
    refine ⟨trivial, ?_⟩
    show gN 1 w [s0, s1, some (.tup (ss.map .int)), s3, s4] h (fun s1 h1 => lp s1 h1 { D with nx := fun s2 h2 => forM (fun _ => True) (gN 1) lp ws s2 h2 D, ct := fun s2 h2 => forM (fun _ => True) (gN 1) lp ws s2 h2 D, bk := D.nx }) _
    have gk : ∀ K : MSt → MHp → Prop, (waitB ss w = true → K [s0, some w, some (.tup (ss.map .int)), s3, s4] h) → gN 1 w [s0, s1, some (.tup (ss.map .int)), s3, s4] h (fun s1 h1 => lp s1 h1 { D with nx := K, ct := K, bk := D.nx }) (fun e h' => D.ex e [s0, s1, some (.tup (ss.map .int)), s3, s4] h') := by
     clear good
     intro K good
     have hw := hs.1
     simp only [lp, getK, setK, Option.isSome_some, eqM_int, neM_int, kit_ii, kit_bi, kit_ni, kit_si, kit_ti, kit_li, kit_ib, kit_bb, kit_tt, kit_it, kit_bt, kit_nt, kit_st, kit_lt, atI0, atI1, atI2, ixN30, ixN31, ixN32, mFn, startM, mSeq, mIf, mAsg, mRet, mRetN, mDrop, mNext, gN, gT, gsCons, gsNil, gIx, mVar, mInt, mBl, mNon, mStr, mC, mOp1, mOp2, int2, plusM, addM, mulM2, negM, isM, isNotM, isNoneM, tV, tNo, tAn, Mini.tOr, mAnd, mOr, mNot, Mini.notM, Bool.not_false, Bool.not_true, Bool.false_eq_true, if_false, if_true, reduceIte, mIfE, aNil, aCons, mTup, mLst, mLstC, mSl, slM, pNo, pAt, mB, mCall, lenM, listM, listMC, tupleM, intM, boolM, ixM, ixV, seqOf, lstOf, Mini.cellOf, mPar, mPar3, mLc, mLcC, mFor, iSeq, Mini.iRng1, Mini.iRng2, Mini.iEnum, Mini.iZip, mIsi, isiM, tyM, mMt, mMt0, appendM, extendM, popM, catF, catF.lstM, mChain, tAll, wipeM, mdK, Prod.mk.injEq, and_assoc, List.map_cons, List.map_nil, List.length_cons, List.length_nil, List.replicate, List.cons_append, List.nil_append, List.getElem?_cons_zero, List.getElem?_cons_succ, List.set_cons_zero, List.set_cons_succ, Option.some.injEq, exists_eq_left', exists_eq_left, true_and, and_true, List.cons.injEq, MV.int.injEq, MV.bl.injEq, MV.tup.injEq, MV.fl.injEq, MV.str.injEq, MV.ref.injEq, Option.bind_some, exists_and_left, exists_const, Nat.sub_self, Nat.reduceSub, Nat.reduceAdd, List.append_nil, List.nil_append, List.length_map, Nat.add_zero, Nat.zero_add]
     cases w <;> first | (simp [MV.sok] at hw; done) | skip
     case tup xs =>
       simp only [getK, setK, Option.isSome_some, eqM_int, neM_int, kit_ii, kit_bi, kit_ni, kit_si, kit_ti, kit_li, kit_ib, kit_bb, kit_tt, kit_it, kit_bt, kit_nt, kit_st, kit_lt, atI0, atI1, atI2, ixN30, ixN31, ixN32, mFn, startM, mSeq, mIf, mAsg, mRet, mRetN, mDrop, mNext, gN, gT, gsCons, gsNil, gIx, mVar, mInt, mBl, mNon, mStr, mC, mOp1, mOp2, int2, plusM, addM, mulM2, negM, isM, isNotM, isNoneM, tV, tNo, tAn, Mini.tOr, mAnd, mOr, mNot, Mini.notM, Bool.not_false, Bool.not_true, Bool.false_eq_true, if_false, if_true, reduceIte, mIfE, aNil, aCons, mTup, mLst, mLstC, mSl, slM, pNo, pAt, mB, mCall, lenM, listM, listMC, tupleM, intM, boolM, ixM, ixV, seqOf, lstOf, Mini.cellOf, mPar, mPar3, mLc, mLcC, mFor, iSeq, Mini.iRng1, Mini.iRng2, Mini.iEnum, Mini.iZip, mIsi, isiM, tyM, mMt, mMt0, appendM, extendM, popM, catF, catF.lstM, mChain, tAll, wipeM, mdK, Prod.mk.injEq, and_assoc, List.map_cons, List.map_nil, List.length_cons, List.length_nil, List.replicate, List.cons_append, List.nil_append, List.getElem?_cons_zero, List.getElem?_cons_succ, List.set_cons_zero, List.set_cons_succ, Option.some.injEq, exists_eq_left', exists_eq_left, true_and, and_true, List.cons.injEq, MV.int.injEq, MV.bl.injEq, MV.tup.injEq, MV.fl.injEq, MV.str.injEq, MV.ref.injEq, Option.bind_some, exists_and_left, exists_const, Nat.sub_self, Nat.reduceSub, Nat.reduceAdd, List.append_nil, List.nil_append, List.length_map, Nat.add_zero, Nat.zero_add]
       by_cases hl : xs.length = 3
       · obtain ⟨a, b, c, rfl⟩ := len3 hl
         obtain ⟨ha, hb, hc⟩ := sok3 hw
         simp only [getK, setK, Option.isSome_some, eqM_int, neM_int, kit_ii, kit_bi, kit_ni, kit_si, kit_ti, kit_li, kit_ib, kit_bb, kit_tt, kit_it, kit_bt, kit_nt, kit_st, kit_lt, atI0, atI1, atI2, ixN30, ixN31, ixN32, mFn, startM, mSeq, mIf, mAsg, mRet, mRetN, mDrop, mNext, gN, gT, gsCons, gsNil, gIx, mVar, mInt, mBl, mNon, mStr, mC, mOp1, mOp2, int2, plusM, addM, mulM2, negM, isM, isNotM, isNoneM, tV, tNo, tAn, Mini.tOr, mAnd, mOr, mNot, Mini.notM, Bool.not_false, Bool.not_true, Bool.false_eq_true, if_false, if_true, reduceIte, mIfE, aNil, aCons, mTup, mLst, mLstC, mSl, slM, pNo, pAt, mB, mCall, lenM, listM, listMC, tupleM, intM, boolM, ixM, ixV, seqOf, lstOf, Mini.cellOf, mPar, mPar3, mLc, mLcC, mFor, iSeq, Mini.iRng1, Mini.iRng2, Mini.iEnum, Mini.iZip, mIsi, isiM, tyM, mMt, mMt0, appendM, extendM, popM, catF, catF.lstM, mChain, tAll, wipeM, mdK, Prod.mk.injEq, and_assoc, List.map_cons, List.map_nil, List.length_cons, List.length_nil, List.replicate, List.cons_append, List.nil_append, List.getElem?_cons_zero, List.getElem?_cons_succ, List.set_cons_zero, List.set_cons_succ, Option.some.injEq, exists_eq_left', exists_eq_left, true_and, and_true, List.cons.injEq, MV.int.injEq, MV.bl.injEq, MV.tup.injEq, MV.fl.injEq, MV.str.injEq, MV.ref.injEq, Option.bind_some, exists_and_left, exists_const, Nat.sub_self, Nat.reduceSub, Nat.reduceAdd, List.append_nil, List.nil_append, List.length_map, Nat.add_zero, Nat.zero_add]
         rw [if_neg (by decide)]
         refine whole_ok hh hc ⟨_, rfl, ?_⟩
         cases m3 : wholeB c 0 3 with
         | false =>
           simp only [getK, setK, Option.isSome_some, eqM_int, neM_int, kit_ii, kit_bi, kit_ni, kit_si, kit_ti, kit_li, kit_ib, kit_bb, kit_tt, kit_it, kit_bt, kit_nt, kit_st, kit_lt, atI0, atI1, atI2, ixN30, ixN31, ixN32, mFn, startM, mSeq, mIf, mAsg, mRet, mRetN, mDrop, mNext, gN, gT, gsCons, gsNil, gIx, mVar, mInt, mBl, mNon, mStr, mC, mOp1, mOp2, int2, plusM, addM, mulM2, negM, isM, isNotM, isNoneM, tV, tNo, tAn, Mini.tOr, mAnd, mOr, mNot, Mini.notM, Bool.not_false, Bool.not_true, Bool.false_eq_true, if_false, if_true, reduceIte, mIfE, aNil, aCons, mTup, mLst, mLstC, mSl, slM, pNo, pAt, mB, mCall, lenM, listM, listMC, tupleM, intM, boolM, ixM, ixV, seqOf, lstOf, Mini.cellOf, mPar, mPar3, mLc, mLcC, mFor, iSeq, Mini.iRng1, Mini.iRng2, Mini.iEnum, Mini.iZip, mIsi, isiM, tyM, mMt, mMt0, appendM, extendM, popM, catF, catF.lstM, mChain, tAll, wipeM, mdK, Prod.mk.injEq, and_assoc, List.map_cons, List.map_nil, List.length_cons, List.length_nil, List.replicate, List.cons_append, List.nil_append, List.getElem?_cons_zero, List.getElem?_cons_succ, List.set_cons_zero, List.set_cons_succ, Option.some.injEq, exists_eq_left', exists_eq_left, true_and, and_true, List.cons.injEq, MV.int.injEq, MV.bl.injEq, MV.tup.injEq, MV.fl.injEq, MV.str.injEq, MV.ref.injEq, Option.bind_some, exists_and_left, exists_const, Nat.sub_self, Nat.reduceSub, Nat.reduceAdd, List.append_nil, List.nil_append, List.length_map, Nat.add_zero, Nat.zero_add]
           exact bad (by simp only [waitB, m3, Bool.and_false])
         | true =>
           simp only [getK, setK, Option.isSome_some, eqM_int, neM_int, kit_ii, kit_bi, kit_ni, kit_si, kit_ti, kit_li, kit_ib, kit_bb, kit_tt, kit_it, kit_bt, kit_nt, kit_st, kit_lt, atI0, atI1, atI2, ixN30, ixN31, ixN32, mFn, startM, mSeq, mIf, mAsg, mRet, mRetN, mDrop, mNext, gN, gT, gsCons, gsNil, gIx, mVar, mInt, mBl, mNon, mStr, mC, mOp1, mOp2, int2, plusM, addM, mulM2, negM, isM, isNotM, isNoneM, tV, tNo, tAn, Mini.tOr, mAnd, mOr, mNot, Mini.notM, Bool.not_false, Bool.not_true, Bool.false_eq_true, if_false, if_true, reduceIte, mIfE, aNil, aCons, mTup, mLst, mLstC, mSl, slM, pNo, pAt, mB, mCall, lenM, listM, listMC, tupleM, intM, boolM, ixM, ixV, seqOf, lstOf, Mini.cellOf, mPar, mPar3, mLc, mLcC, mFor, iSeq, Mini.iRng1, Mini.iRng2, Mini.iEnum, Mini.iZip, mIsi, isiM, tyM, mMt, mMt0, appendM, extendM, popM, catF, catF.lstM, mChain, tAll, wipeM, mdK, Prod.mk.injEq, and_assoc, List.map_cons, List.map_nil, List.length_cons, List.length_nil, List.replicate, List.cons_append, List.nil_append, List.getElem?_cons_zero, List.getElem?_cons_succ, List.set_cons_zero, List.set_cons_succ, Option.some.injEq, exists_eq_left', exists_eq_left, true_and, and_true, List.cons.injEq, MV.int.injEq, MV.bl.injEq, MV.tup.injEq, MV.fl.injEq, MV.str.injEq, MV.ref.injEq, Option.bind_some, exists_and_left, exists_const, Nat.sub_self, Nat.reduceSub, Nat.reduceAdd, List.append_nil, List.nil_append, List.length_map, Nat.add_zero, Nat.zero_add]
           refine member_ok hh ha ⟨_, rfl, ?_⟩
           cases m1 : memberB ss a with
           | false =>
             simp only [getK, setK, Option.isSome_some, eqM_int, neM_int, kit_ii, kit_bi, kit_ni, kit_si, kit_ti, kit_li, kit_ib, kit_bb, kit_tt, kit_it, kit_bt, kit_nt, kit_st, kit_lt, atI0, atI1, atI2, ixN30, ixN31, ixN32, mFn, startM, mSeq, mIf, mAsg, mRet, mRetN, mDrop, mNext, gN, gT, gsCons, gsNil, gIx, mVar, mInt, mBl, mNon, mStr, mC, mOp1, mOp2, int2, plusM, addM, mulM2, negM, isM, isNotM, isNoneM, tV, tNo, tAn, Mini.tOr, mAnd, mOr, mNot, Mini.notM, Bool.not_false, Bool.not_true, Bool.false_eq_true, if_false, if_true, reduceIte, mIfE, aNil, aCons, mTup, mLst, mLstC, mSl, slM, pNo, pAt, mB, mCall, lenM, listM, listMC, tupleM, intM, boolM, ixM, ixV, seqOf, lstOf, Mini.cellOf, mPar, mPar3, mLc, mLcC, mFor, iSeq, Mini.iRng1, Mini.iRng2, Mini.iEnum, Mini.iZip, mIsi, isiM, tyM, mMt, mMt0, appendM, extendM, popM, catF, catF.lstM, mChain, tAll, wipeM, mdK, Prod.mk.injEq, and_assoc, List.map_cons, List.map_nil, List.length_cons, List.length_nil, List.replicate, List.cons_append, List.nil_append, List.getElem?_cons_zero, List.getElem?_cons_succ, List.set_cons_zero, List.set_cons_succ, Option.some.injEq, exists_eq_left', exists_eq_left, true_and, and_true, List.cons.injEq, MV.int.injEq, MV.bl.injEq, MV.tup.injEq, MV.fl.injEq, MV.str.injEq, MV.ref.injEq, Option.bind_some, exists_and_left, exists_const, Nat.sub_self, Nat.reduceSub, Nat.reduceAdd, List.append_nil, List.nil_append, List.length_map, Nat.add_zero, Nat.zero_add]
             exact bad (by simp only [waitB, m1, Bool.false_and])
           | true =>
             simp only [getK, setK, Option.isSome_some, eqM_int, neM_int, kit_ii, kit_bi, kit_ni, kit_si, kit_ti, kit_li, kit_ib, kit_bb, kit_tt, kit_it, kit_bt, kit_nt, kit_st, kit_lt, atI0, atI1, atI2, ixN30, ixN31, ixN32, mFn, startM, mSeq, mIf, mAsg, mRet, mRetN, mDrop, mNext, gN, gT, gsCons, gsNil, gIx, mVar, mInt, mBl, mNon, mStr, mC, mOp1, mOp2, int2, plusM, addM, mulM2, negM, isM, isNotM, isNoneM, tV, tNo, tAn, Mini.tOr, mAnd, mOr, mNot, Mini.notM, Bool.not_false, Bool.not_true, Bool.false_eq_true, if_false, if_true, reduceIte, mIfE, aNil, aCons, mTup, mLst, mLstC, mSl, slM, pNo, pAt, mB, mCall, lenM, listM, listMC, tupleM, intM, boolM, ixM, ixV, seqOf, lstOf, Mini.cellOf, mPar, mPar3, mLc, mLcC, mFor, iSeq, Mini.iRng1, Mini.iRng2, Mini.iEnum, Mini.iZip, mIsi, isiM, tyM, mMt, mMt0, appendM, extendM, popM, catF, catF.lstM, mChain, tAll, wipeM, mdK, Prod.mk.injEq, and_assoc, List.map_cons, List.map_nil, List.length_cons, List.length_nil, List.replicate, List.cons_append, List.nil_append, List.getElem?_cons_zero, List.getElem?_cons_succ, List.set_cons_zero, List.set_cons_succ, Option.some.injEq, exists_eq_left', exists_eq_left, true_and, and_true, List.cons.injEq, MV.int.injEq, MV.bl.injEq, MV.tup.injEq, MV.fl.injEq, MV.str.injEq, MV.ref.injEq, Option.bind_some, exists_and_left, exists_const, Nat.sub_self, Nat.reduceSub, Nat.reduceAdd, List.append_nil, List.nil_append, List.length_map, Nat.add_zero, Nat.zero_add]
             refine member_ok hh hb ⟨_, rfl, ?_⟩
             cases m2 : memberB ss b with
             | false =>
               simp only [getK, setK, Option.isSome_some, eqM_int, neM_int, kit_ii, kit_bi, kit_ni, kit_si, kit_ti, kit_li, kit_ib, kit_bb, kit_tt, kit_it, kit_bt, kit_nt, kit_st, kit_lt, atI0, atI1, atI2, ixN30, ixN31, ixN32, mFn, startM, mSeq, mIf, mAsg, mRet, mRetN, mDrop, mNext, gN, gT, gsCons, gsNil, gIx, mVar, mInt, mBl, mNon, mStr, mC, mOp1, mOp2, int2, plusM, addM, mulM2, negM, isM, isNotM, isNoneM, tV, tNo, tAn, Mini.tOr, mAnd, mOr, mNot, Mini.notM, Bool.not_false, Bool.not_true, Bool.false_eq_true, if_false, if_true, reduceIte, mIfE, aNil, aCons, mTup, mLst, mLstC, mSl, slM, pNo, pAt, mB, mCall, lenM, listM, listMC, tupleM, intM, boolM, ixM, ixV, seqOf, lstOf, Mini.cellOf, mPar, mPar3, mLc, mLcC, mFor, iSeq, Mini.iRng1, Mini.iRng2, Mini.iEnum, Mini.iZip, mIsi, isiM, tyM, mMt, mMt0, appendM, extendM, popM, catF, catF.lstM, mChain, tAll, wipeM, mdK, Prod.mk.injEq, and_assoc, List.map_cons, List.map_nil, List.length_cons, List.length_nil, List.replicate, List.cons_append, List.nil_append, List.getElem?_cons_zero, List.getElem?_cons_succ, List.set_cons_zero, List.set_cons_succ, Option.some.injEq, exists_eq_left', exists_eq_left, true_and, and_true, List.cons.injEq, MV.int.injEq, MV.bl.injEq, MV.tup.injEq, MV.fl.injEq, MV.str.injEq, MV.ref.injEq, Option.bind_some, exists_and_left, exists_const, Nat.sub_self, Nat.reduceSub, Nat.reduceAdd, List.append_nil, List.nil_append, List.length_map, Nat.add_zero, Nat.zero_add]
               exact bad (by simp only [waitB, m1, m2, Bool.true_and, Bool.false_and])
             | true =>
               obtain ⟨i, j, rfl, _⟩ := memberB_shape m1
               obtain ⟨i', j', rfl, _⟩ := memberB_shape m2
               simp only [getK, setK, Option.isSome_some, eqM_int, neM_int, kit_ii, kit_bi, kit_ni, kit_si, kit_ti, kit_li, kit_ib, kit_bb, kit_tt, kit_it, kit_bt, kit_nt, kit_st, kit_lt, atI0, atI1, atI2, ixN30, ixN31, ixN32, mFn, startM, mSeq, mIf, mAsg, mRet, mRetN, mDrop, mNext, gN, gT, gsCons, gsNil, gIx, mVar, mInt, mBl, mNon, mStr, mC, mOp1, mOp2, int2, plusM, addM, mulM2, negM, isM, isNotM, isNoneM, tV, tNo, tAn, Mini.tOr, mAnd, mOr, mNot, Mini.notM, Bool.not_false, Bool.not_true, Bool.false_eq_true, if_false, if_true, reduceIte, mIfE, aNil, aCons, mTup, mLst, mLstC, mSl, slM, pNo, pAt, mB, mCall, lenM, listM, listMC, tupleM, intM, boolM, ixM, ixV, seqOf, lstOf, Mini.cellOf, mPar, mPar3, mLc, mLcC, mFor, iSeq, Mini.iRng1, Mini.iRng2, Mini.iEnum, Mini.iZip, mIsi, isiM, tyM, mMt, mMt0, appendM, extendM, popM, catF, catF.lstM, mChain, tAll, wipeM, mdK, Prod.mk.injEq, and_assoc, List.map_cons, List.map_nil, List.length_cons, List.length_nil, List.replicate, List.cons_append, List.nil_append, List.getElem?_cons_zero, List.getElem?_cons_succ, List.set_cons_zero, List.set_cons_succ, Option.some.injEq, exists_eq_left', exists_eq_left, true_and, and_true, List.cons.injEq, MV.int.injEq, MV.bl.injEq, MV.tup.injEq, MV.fl.injEq, MV.str.injEq, MV.ref.injEq, Option.bind_some, exists_and_left, exists_const, Nat.sub_self, Nat.reduceSub, Nat.reduceAdd, List.append_nil, List.nil_append, List.length_map, Nat.add_zero, Nat.zero_add]
               cases e : (i == i') with
               | true =>
                 simp only [getK, setK, Option.isSome_some, eqM_int, neM_int, kit_ii, kit_bi, kit_ni, kit_si, kit_ti, kit_li, kit_ib, kit_bb, kit_tt, kit_it, kit_bt, kit_nt, kit_st, kit_lt, atI0, atI1, atI2, ixN30, ixN31, ixN32, mFn, startM, mSeq, mIf, mAsg, mRet, mRetN, mDrop, mNext, gN, gT, gsCons, gsNil, gIx, mVar, mInt, mBl, mNon, mStr, mC, mOp1, mOp2, int2, plusM, addM, mulM2, negM, isM, isNotM, isNoneM, tV, tNo, tAn, Mini.tOr, mAnd, mOr, mNot, Mini.notM, Bool.not_false, Bool.not_true, Bool.false_eq_true, if_false, if_true, reduceIte, mIfE, aNil, aCons, mTup, mLst, mLstC, mSl, slM, pNo, pAt, mB, mCall, lenM, listM, listMC, tupleM, intM, boolM, ixM, ixV, seqOf, lstOf, Mini.cellOf, mPar, mPar3, mLc, mLcC, mFor, iSeq, Mini.iRng1, Mini.iRng2, Mini.iEnum, Mini.iZip, mIsi, isiM, tyM, mMt, mMt0, appendM, extendM, popM, catF, catF.lstM, mChain, tAll, wipeM, mdK, Prod.mk.injEq, and_assoc, List.map_cons, List.map_nil, List.length_cons, List.length_nil, List.replicate, List.cons_append, List.nil_append, List.getElem?_cons_zero, List.getElem?_cons_succ, List.set_cons_zero, List.set_cons_succ, Option.some.injEq, exists_eq_left', exists_eq_left, true_and, and_true, List.cons.injEq, MV.int.injEq, MV.bl.injEq, MV.tup.injEq, MV.fl.injEq, MV.str.injEq, MV.ref.injEq, Option.bind_some, exists_and_left, exists_const, Nat.sub_self, Nat.reduceSub, Nat.reduceAdd, List.append_nil, List.nil_append, List.length_map, Nat.add_zero, Nat.zero_add]
                 exact bad (by simp only [waitB, hd, e, Bool.not_true, Bool.false_and, Bool.and_false])
               | false =>
                 simp only [getK, setK, Option.isSome_some, eqM_int, neM_int, kit_ii, kit_bi, kit_ni, kit_si, kit_ti, kit_li, kit_ib, kit_bb, kit_tt, kit_it, kit_bt, kit_nt, kit_st, kit_lt, atI0, atI1, atI2, ixN30, ixN31, ixN32, mFn, startM, mSeq, mIf, mAsg, mRet, mRetN, mDrop, mNext, gN, gT, gsCons, gsNil, gIx, mVar, mInt, mBl, mNon, mStr, mC, mOp1, mOp2, int2, plusM, addM, mulM2, negM, isM, isNotM, isNoneM, tV, tNo, tAn, Mini.tOr, mAnd, mOr, mNot, Mini.notM, Bool.not_false, Bool.not_true, Bool.false_eq_true, if_false, if_true, reduceIte, mIfE, aNil, aCons, mTup, mLst, mLstC, mSl, slM, pNo, pAt, mB, mCall, lenM, listM, listMC, tupleM, intM, boolM, ixM, ixV, seqOf, lstOf, Mini.cellOf, mPar, mPar3, mLc, mLcC, mFor, iSeq, Mini.iRng1, Mini.iRng2, Mini.iEnum, Mini.iZip, mIsi, isiM, tyM, mMt, mMt0, appendM, extendM, popM, catF, catF.lstM, mChain, tAll, wipeM, mdK, Prod.mk.injEq, and_assoc, List.map_cons, List.map_nil, List.length_cons, List.length_nil, List.replicate, List.cons_append, List.nil_append, List.getElem?_cons_zero, List.getElem?_cons_succ, List.set_cons_zero, List.set_cons_succ, Option.some.injEq, exists_eq_left', exists_eq_left, true_and, and_true, List.cons.injEq, MV.int.injEq, MV.bl.injEq, MV.tup.injEq, MV.fl.injEq, MV.str.injEq, MV.ref.injEq, Option.bind_some, exists_and_left, exists_const, Nat.sub_self, Nat.reduceSub, Nat.reduceAdd, List.append_nil, List.nil_append, List.length_map, Nat.add_zero, Nat.zero_add]
                 exact good (by simp only [waitB, m1, m2, m3, hd, e, Bool.not_false, Bool.and_self])
       · have e : ((xs.length : Int) == 3) = false := by simp; omega
         simp only [e, getK, setK, Option.isSome_some, eqM_int, neM_int, kit_ii, kit_bi, kit_ni, kit_si, kit_ti, kit_li, kit_ib, kit_bb, kit_tt, kit_it, kit_bt, kit_nt, kit_st, kit_lt, atI0, atI1, atI2, ixN30, ixN31, ixN32, mFn, startM, mSeq, mIf, mAsg, mRet, mRetN, mDrop, mNext, gN, gT, gsCons, gsNil, gIx, mVar, mInt, mBl, mNon, mStr, mC, mOp1, mOp2, int2, plusM, addM, mulM2, negM, isM, isNotM, isNoneM, tV, tNo, tAn, Mini.tOr, mAnd, mOr, mNot, Mini.notM, Bool.not_false, Bool.not_true, Bool.false_eq_true, if_false, if_true, reduceIte, mIfE, aNil, aCons, mTup, mLst, mLstC, mSl, slM, pNo, pAt, mB, mCall, lenM, listM, listMC, tupleM, intM, boolM, ixM, ixV, seqOf, lstOf, Mini.cellOf, mPar, mPar3, mLc, mLcC, mFor, iSeq, Mini.iRng1, Mini.iRng2, Mini.iEnum, Mini.iZip, mIsi, isiM, tyM, mMt, mMt0, appendM, extendM, popM, catF, catF.lstM, mChain, tAll, wipeM, mdK, Prod.mk.injEq, and_assoc, List.map_cons, List.map_nil, List.length_cons, List.length_nil, List.replicate, List.cons_append, List.nil_append, List.getElem?_cons_zero, List.getElem?_cons_succ, List.set_cons_zero, List.set_cons_succ, Option.some.injEq, exists_eq_left', exists_eq_left, true_and, and_true, List.cons.injEq, MV.int.injEq, MV.bl.injEq, MV.tup.injEq, MV.fl.injEq, MV.str.injEq, MV.ref.injEq, Option.bind_some, exists_and_left, exists_const, Nat.sub_self, Nat.reduceSub, Nat.reduceAdd, List.append_nil, List.nil_append, List.length_map, Nat.add_zero, Nat.zero_add]
         exact bad (waitB_len hl)
     all_goals (simp only [getK, setK, Option.isSome_some, eqM_int, neM_int, kit_ii, kit_bi, kit_ni, kit_si, kit_ti, kit_li, kit_ib, kit_bb, kit_tt, kit_it, kit_bt, kit_nt, kit_st, kit_lt, atI0, atI1, atI2, ixN30, ixN31, ixN32, mFn, startM, mSeq, mIf, mAsg, mRet, mRetN, mDrop, mNext, gN, gT, gsCons, gsNil, gIx, mVar, mInt, mBl, mNon, mStr, mC, mOp1, mOp2, int2, plusM, addM, mulM2, negM, isM, isNotM, isNoneM, tV, tNo, tAn, Mini.tOr, mAnd, mOr, mNot, Mini.notM, Bool.not_false, Bool.not_true, Bool.false_eq_true, if_false, if_true, reduceIte, mIfE, aNil, aCons, mTup, mLst, mLstC, mSl, slM, pNo, pAt, mB, mCall, lenM, listM, listMC, tupleM, intM, boolM, ixM, ixV, seqOf, lstOf, Mini.cellOf, mPar, mPar3, mLc, mLcC, mFor, iSeq, Mini.iRng1, Mini.iRng2, Mini.iEnum, Mini.iZip, mIsi, isiM, tyM, mMt, mMt0, appendM, extendM, popM, catF, catF.lstM, mChain, tAll, wipeM, mdK, Prod.mk.injEq, and_assoc, List.map_cons, List.map_nil, List.length_cons, List.length_nil, List.replicate, List.cons_append, List.nil_append, List.getElem?_cons_zero, List.getElem?_cons_succ, List.set_cons_zero, List.set_cons_succ, Option.some.injEq, exists_eq_left', exists_eq_left, true_and, and_true, List.cons.injEq, MV.int.injEq, MV.bl.injEq, MV.tup.injEq, MV.fl.injEq, MV.str.injEq, MV.ref.injEq, Option.bind_some, exists_and_left, exists_const, Nat.sub_self, Nat.reduceSub, Nat.reduceAdd, List.append_nil, List.nil_append, List.length_map, Nat.add_zero, Nat.zero_add]; exact bad rfl)
    exact gk _ good

def sizesB (v : MV) : Bool := match v with
  | .tup xs => (decide (1 ≤ xs.length) && decide (xs.length ≤ 4)) && xs.all fun x => wholeB x 1 4
  | _ => false
theorem ints_of {xs : List MV} {lo hi : Int} : (xs.all fun x => wholeB x lo hi) = true → ∃ ss : List Int, xs = ss.map .int ∧ ∀ s ∈ ss, lo ≤ s ∧ s ≤ hi := by
  induction xs with
  | nil => intro _; exact ⟨[], rfl, fun _ h => nomatch h⟩
  | cons x xs ih =>
    intro h
    simp only [List.all_cons, Bool.and_eq_true] at h
    obtain ⟨ss, e, hs⟩ := ih h.2
    obtain ⟨i, rfl, h1, h2⟩ := wholeB_int h.1
    refine ⟨i :: ss, by rw [e] <;> rfl, fun s hs' => ?_⟩
    rcases List.mem_cons.mp hs' with e | hs'
    · rw [e]; exact ⟨h1, h2⟩
    · exact hs s hs'
theorem waits_of {ss : List Int} {ws : List MV} : ws.all (waitB ss) = true → ∃ es : List T5, ws = es.map wv := by
  induction ws with
  | nil => intro _; exact ⟨[], rfl⟩
  | cons w ws ih =>
    intro h
    simp only [List.all_cons, Bool.and_eq_true] at h
    obtain ⟨es, e⟩ := ih h.2
    have h1 := h.1
    unfold waitB at h1
    split at h1
    · simp only [Bool.and_eq_true] at h1
      obtain ⟨i, j, rfl, _⟩ := memberB_shape h1.1
      obtain ⟨i', j', rfl, _⟩ := memberB_shape h1.2.1
      obtain ⟨k, rfl, _⟩ := wholeB_int h1.2.2.2
      exact ⟨(i, j, i', j', k) :: es, by rw [e] <;> rfl⟩
    · simp at h1
/-- ascending, for waits -/
def ascB (ws : List MV) : Prop := ∃ es : List T5, ws = es.map wv ∧ es = asc es
def toI (x : MV) : Int := match x with
  | .int i => i
  | _ => 0
open Classical in
noncomputable def planB (v : MV) : Bool := match v with
  | .tup [.tup xs, .tup ws] => sizesB (.tup xs) && (decide (ws.length ≤ 12) && (ws.all (waitB (xs.map toI)) && decide (ascB ws)))
  | _ => false
theorem wv_map_inj : ∀ {es fs : List T5}, es.map wv = fs.map wv → es = fs
  | [], [], _ => rfl
  | [], _ :: _, e => by simp at e
  | _ :: _, [], e => by simp at e
  | a :: es, f :: fs, e => by
    simp only [List.map_cons, List.cons.injEq] at e
    rw [wv_inj e.1, wv_map_inj e.2]
theorem ascB_iff {es : List T5} : ascB (es.map wv) ↔ es = asc es := by
  refine ⟨fun ⟨fs, e, h⟩ => ?_, fun h => ⟨es, rfl, h⟩⟩
  rw [wv_map_inj e]
  exact h
theorem sizes_back (ss : List Int) : (ss.map MV.int).map toI = ss := by
  rw [List.map_map]
  conv => rhs; rw [← List.map_id ss]
  exact List.map_congr_left fun x _ => rfl
theorem planB_sizes {xs ws : List MV} (h : sizesB (.tup xs) = false) : planB (.tup [.tup xs, .tup ws]) = false := by
  unfold planB
  simp only [h, Bool.false_and]

def ysB (p : MV → Bool) (xs : List MV) : List MV := xs.filterMap fun x => some (.bl (p x))
theorem ysB_cons {p : MV → Bool} {x : MV} {xs : List MV} : ysB p (x :: xs) = .bl (p x) :: ysB p xs := rfl
theorem bls_ysB {p : MV → Bool} : ∀ xs : List MV, blsOf (ysB p xs) = some (xs.map p)
  | [] => rfl
  | x :: xs => by
    rw [ysB_cons]
    show (blsOf (ysB p xs)).map (p x :: ·) = _
    rw [bls_ysB xs] <;> rfl
theorem all_ysB {p : MV → Bool} {xs : List MV} {h : MHp} {Q : MQ} (k : Q (.bl (xs.all p)) h) : allM [.fl (ysB p xs)] h Q := by
  refine ⟨_, _, _, rfl, rfl, bls_ysB xs, ?_⟩
  rw [List.all_map]
  exact k
theorem in_ysB {p : MV → Bool} {xs : List MV} {h : MHp} {Q : MQ} (k : Q (.bl (!xs.all p)) h) : inSeqM (.bl false) (.fl (ysB p xs)) h Q := by
  refine ⟨_, rfl, ?_, ?_, rfl, ?_⟩
  · clear k
    induction xs with
    | nil => rfl
    | cons x xs ih => rw [ysB_cons]; simp only [sokAll, MV.sok, ih, Bool.and_self]
  · clear k
    have : depAll (ysB p xs) = 0 := by
      induction xs with
      | nil => rfl
      | cons x xs ih => rw [ysB_cons]; simp only [depAll, MV.dep, ih, Nat.max_self]
    omega
  · have : ((ysB p xs).any fun z => z.eqv (der h (.bl false))) = !xs.all p := by
      clear k
      induction xs with
      | nil => rfl
      | cons x xs ih =>
        rw [ysB_cons, List.any_cons, List.all_cons, ih]
        cases p x <;> simp [MV.eqv, der]
    rw [this]
    exact k
theorem sizes_ok {v : MV} {h : MHp} (hh : Hh h) (hv : v.sok = true) {Q E : MQ} (k : Q (.bl (sizesB v)) h) : f_are_endless_sizes [v] h Q E := by
  simp only [f_are_endless_sizes, b_are_endless_sizes, getK, setK, Option.isSome_some, eqM_int, neM_int, kit_ii, kit_bi, kit_ni, kit_si, kit_ti, kit_li, kit_ib, kit_bb, kit_tt, kit_it, kit_bt, kit_nt, kit_st, kit_lt, atI0, atI1, atI2, ixN30, ixN31, ixN32, mFn, startM, mSeq, mIf, mAsg, mRet, mRetN, mDrop, mNext, gN, gT, gsCons, gsNil, gIx, mVar, mInt, mBl, mNon, mStr, mC, mOp1, mOp2, int2, plusM, addM, mulM2, negM, isM, isNotM, isNoneM, tV, tNo, tAn, Mini.tOr, mAnd, mOr, mNot, Mini.notM, Bool.not_false, Bool.not_true, Bool.false_eq_true, if_false, if_true, reduceIte, mIfE, aNil, aCons, mTup, mLst, mLstC, mSl, slM, pNo, pAt, mB, mCall, lenM, listM, listMC, tupleM, intM, boolM, ixM, ixV, seqOf, lstOf, Mini.cellOf, mPar, mPar3, mLc, mLcC, mFor, iSeq, Mini.iRng1, Mini.iRng2, Mini.iEnum, Mini.iZip, mIsi, isiM, tyM, mMt, mMt0, appendM, extendM, popM, catF, catF.lstM, mChain, tAll, wipeM, mdK, Prod.mk.injEq, and_assoc, List.map_cons, List.map_nil, List.length_cons, List.length_nil, List.replicate, List.cons_append, List.nil_append, List.getElem?_cons_zero, List.getElem?_cons_succ, List.set_cons_zero, List.set_cons_succ, Option.some.injEq, exists_eq_left', exists_eq_left, true_and, and_true, List.cons.injEq, MV.int.injEq, MV.bl.injEq, MV.tup.injEq, MV.fl.injEq, MV.str.injEq, MV.ref.injEq, Option.bind_some, exists_and_left, exists_const, Nat.sub_self, Nat.reduceSub, Nat.reduceAdd, List.append_nil, List.nil_append, List.length_map, Nat.add_zero, Nat.zero_add]
  cases v <;> first | (simp [MV.sok] at hv; done) | skip
  case tup xs =>
    have hx := sokAll_iff.mp (show sokAll xs = true by simpa [MV.sok] using hv)
    simp only [getK, setK, Option.isSome_some, eqM_int, neM_int, kit_ii, kit_bi, kit_ni, kit_si, kit_ti, kit_li, kit_ib, kit_bb, kit_tt, kit_it, kit_bt, kit_nt, kit_st, kit_lt, atI0, atI1, atI2, ixN30, ixN31, ixN32, mFn, startM, mSeq, mIf, mAsg, mRet, mRetN, mDrop, mNext, gN, gT, gsCons, gsNil, gIx, mVar, mInt, mBl, mNon, mStr, mC, mOp1, mOp2, int2, plusM, addM, mulM2, negM, isM, isNotM, isNoneM, tV, tNo, tAn, Mini.tOr, mAnd, mOr, mNot, Mini.notM, Bool.not_false, Bool.not_true, Bool.false_eq_true, if_false, if_true, reduceIte, mIfE, aNil, aCons, mTup, mLst, mLstC, mSl, slM, pNo, pAt, mB, mCall, lenM, listM, listMC, tupleM, intM, boolM, ixM, ixV, seqOf, lstOf, Mini.cellOf, mPar, mPar3, mLc, mLcC, mFor, iSeq, Mini.iRng1, Mini.iRng2, Mini.iEnum, Mini.iZip, mIsi, isiM, tyM, mMt, mMt0, appendM, extendM, popM, catF, catF.lstM, mChain, tAll, wipeM, mdK, Prod.mk.injEq, and_assoc, List.map_cons, List.map_nil, List.length_cons, List.length_nil, List.replicate, List.cons_append, List.nil_append, List.getElem?_cons_zero, List.getElem?_cons_succ, List.set_cons_zero, List.set_cons_succ, Option.some.injEq, exists_eq_left', exists_eq_left, true_and, and_true, List.cons.injEq, MV.int.injEq, MV.bl.injEq, MV.tup.injEq, MV.fl.injEq, MV.str.injEq, MV.ref.injEq, Option.bind_some, exists_and_left, exists_const, Nat.sub_self, Nat.reduceSub, Nat.reduceAdd, List.append_nil, List.nil_append, List.length_map, Nat.add_zero, Nat.zero_add]
    by_cases h1 : 1 ≤ xs.length
    · have e1 : decide ((1 : Int) ≤ (xs.length : Int)) = true := decide_eq_true (by omega)
      simp only [e1, getK, setK, Option.isSome_some, eqM_int, neM_int, kit_ii, kit_bi, kit_ni, kit_si, kit_ti, kit_li, kit_ib, kit_bb, kit_tt, kit_it, kit_bt, kit_nt, kit_st, kit_lt, atI0, atI1, atI2, ixN30, ixN31, ixN32, mFn, startM, mSeq, mIf, mAsg, mRet, mRetN, mDrop, mNext, gN, gT, gsCons, gsNil, gIx, mVar, mInt, mBl, mNon, mStr, mC, mOp1, mOp2, int2, plusM, addM, mulM2, negM, isM, isNotM, isNoneM, tV, tNo, tAn, Mini.tOr, mAnd, mOr, mNot, Mini.notM, Bool.not_false, Bool.not_true, Bool.false_eq_true, if_false, if_true, reduceIte, mIfE, aNil, aCons, mTup, mLst, mLstC, mSl, slM, pNo, pAt, mB, mCall, lenM, listM, listMC, tupleM, intM, boolM, ixM, ixV, seqOf, lstOf, Mini.cellOf, mPar, mPar3, mLc, mLcC, mFor, iSeq, Mini.iRng1, Mini.iRng2, Mini.iEnum, Mini.iZip, mIsi, isiM, tyM, mMt, mMt0, appendM, extendM, popM, catF, catF.lstM, mChain, tAll, wipeM, mdK, Prod.mk.injEq, and_assoc, List.map_cons, List.map_nil, List.length_cons, List.length_nil, List.replicate, List.cons_append, List.nil_append, List.getElem?_cons_zero, List.getElem?_cons_succ, List.set_cons_zero, List.set_cons_succ, Option.some.injEq, exists_eq_left', exists_eq_left, true_and, and_true, List.cons.injEq, MV.int.injEq, MV.bl.injEq, MV.tup.injEq, MV.fl.injEq, MV.str.injEq, MV.ref.injEq, Option.bind_some, exists_and_left, exists_const, Nat.sub_self, Nat.reduceSub, Nat.reduceAdd, List.append_nil, List.nil_append, List.length_map, Nat.add_zero, Nat.zero_add]
      by_cases h2 : xs.length ≤ 4
      · have e2 : decide ((xs.length : Int) ≤ 4) = true := decide_eq_true (by omega)
        simp only [e2, getK, setK, Option.isSome_some, eqM_int, neM_int, kit_ii, kit_bi, kit_ni, kit_si, kit_ti, kit_li, kit_ib, kit_bb, kit_tt, kit_it, kit_bt, kit_nt, kit_st, kit_lt, atI0, atI1, atI2, ixN30, ixN31, ixN32, mFn, startM, mSeq, mIf, mAsg, mRet, mRetN, mDrop, mNext, gN, gT, gsCons, gsNil, gIx, mVar, mInt, mBl, mNon, mStr, mC, mOp1, mOp2, int2, plusM, addM, mulM2, negM, isM, isNotM, isNoneM, tV, tNo, tAn, Mini.tOr, mAnd, mOr, mNot, Mini.notM, Bool.not_false, Bool.not_true, Bool.false_eq_true, if_false, if_true, reduceIte, mIfE, aNil, aCons, mTup, mLst, mLstC, mSl, slM, pNo, pAt, mB, mCall, lenM, listM, listMC, tupleM, intM, boolM, ixM, ixV, seqOf, lstOf, Mini.cellOf, mPar, mPar3, mLc, mLcC, mFor, iSeq, Mini.iRng1, Mini.iRng2, Mini.iEnum, Mini.iZip, mIsi, isiM, tyM, mMt, mMt0, appendM, extendM, popM, catF, catF.lstM, mChain, tAll, wipeM, mdK, Prod.mk.injEq, and_assoc, List.map_cons, List.map_nil, List.length_cons, List.length_nil, List.replicate, List.cons_append, List.nil_append, List.getElem?_cons_zero, List.getElem?_cons_succ, List.set_cons_zero, List.set_cons_succ, Option.some.injEq, exists_eq_left', exists_eq_left, true_and, and_true, List.cons.injEq, MV.int.injEq, MV.bl.injEq, MV.tup.injEq, MV.fl.injEq, MV.str.injEq, MV.ref.injEq, Option.bind_some, exists_and_left, exists_const, Nat.sub_self, Nat.reduceSub, Nat.reduceAdd, List.append_nil, List.nil_append, List.length_map, Nat.add_zero, Nat.zero_add]
        refine comp_pure (f := fun x => some (.bl (wholeB x 1 4))) trivial xs [] (by rw [sizeLine_eq]; simp; omega) (fun x hx' acc K ha hk => ?_) ?_
        · simp only [tAll, getK, setK, Option.isSome_some, eqM_int, neM_int, kit_ii, kit_bi, kit_ni, kit_si, kit_ti, kit_li, kit_ib, kit_bb, kit_tt, kit_it, kit_bt, kit_nt, kit_st, kit_lt, atI0, atI1, atI2, ixN30, ixN31, ixN32, mFn, startM, mSeq, mIf, mAsg, mRet, mRetN, mDrop, mNext, gN, gT, gsCons, gsNil, gIx, mVar, mInt, mBl, mNon, mStr, mC, mOp1, mOp2, int2, plusM, addM, mulM2, negM, isM, isNotM, isNoneM, tV, tNo, tAn, Mini.tOr, mAnd, mOr, mNot, Mini.notM, Bool.not_false, Bool.not_true, Bool.false_eq_true, if_false, if_true, reduceIte, mIfE, aNil, aCons, mTup, mLst, mLstC, mSl, slM, pNo, pAt, mB, mCall, lenM, listM, listMC, tupleM, intM, boolM, ixM, ixV, seqOf, lstOf, Mini.cellOf, mPar, mPar3, mLc, mLcC, mFor, iSeq, Mini.iRng1, Mini.iRng2, Mini.iEnum, Mini.iZip, mIsi, isiM, tyM, mMt, mMt0, appendM, extendM, popM, catF, catF.lstM, mChain, tAll, wipeM, mdK, Prod.mk.injEq, and_assoc, List.map_cons, List.map_nil, List.length_cons, List.length_nil, List.replicate, List.cons_append, List.nil_append, List.getElem?_cons_zero, List.getElem?_cons_succ, List.set_cons_zero, List.set_cons_succ, Option.some.injEq, exists_eq_left', exists_eq_left, true_and, and_true, List.cons.injEq, MV.int.injEq, MV.bl.injEq, MV.tup.injEq, MV.fl.injEq, MV.str.injEq, MV.ref.injEq, Option.bind_some, exists_and_left, exists_const, Nat.sub_self, Nat.reduceSub, Nat.reduceAdd, List.append_nil, List.nil_append, List.length_map, Nat.add_zero, Nat.zero_add]
          exact between_ok hh (hx x hx') ⟨ha, hk⟩
        · rw [List.nil_append]
          refine all_ysB (p := fun x => wholeB x 1 4) (bl_end hh ?_)
          simpa only [sizesB, h1, h2, decide_true, Bool.and_self, Bool.true_and] using k
      · have e2 : decide ((xs.length : Int) ≤ 4) = false := decide_eq_false (by omega)
        simp only [e2, getK, setK, Option.isSome_some, eqM_int, neM_int, kit_ii, kit_bi, kit_ni, kit_si, kit_ti, kit_li, kit_ib, kit_bb, kit_tt, kit_it, kit_bt, kit_nt, kit_st, kit_lt, atI0, atI1, atI2, ixN30, ixN31, ixN32, mFn, startM, mSeq, mIf, mAsg, mRet, mRetN, mDrop, mNext, gN, gT, gsCons, gsNil, gIx, mVar, mInt, mBl, mNon, mStr, mC, mOp1, mOp2, int2, plusM, addM, mulM2, negM, isM, isNotM, isNoneM, tV, tNo, tAn, Mini.tOr, mAnd, mOr, mNot, Mini.notM, Bool.not_false, Bool.not_true, Bool.false_eq_true, if_false, if_true, reduceIte, mIfE, aNil, aCons, mTup, mLst, mLstC, mSl, slM, pNo, pAt, mB, mCall, lenM, listM, listMC, tupleM, intM, boolM, ixM, ixV, seqOf, lstOf, Mini.cellOf, mPar, mPar3, mLc, mLcC, mFor, iSeq, Mini.iRng1, Mini.iRng2, Mini.iEnum, Mini.iZip, mIsi, isiM, tyM, mMt, mMt0, appendM, extendM, popM, catF, catF.lstM, mChain, tAll, wipeM, mdK, Prod.mk.injEq, and_assoc, List.map_cons, List.map_nil, List.length_cons, List.length_nil, List.replicate, List.cons_append, List.nil_append, List.getElem?_cons_zero, List.getElem?_cons_succ, List.set_cons_zero, List.set_cons_succ, Option.some.injEq, exists_eq_left', exists_eq_left, true_and, and_true, List.cons.injEq, MV.int.injEq, MV.bl.injEq, MV.tup.injEq, MV.fl.injEq, MV.str.injEq, MV.ref.injEq, Option.bind_some, exists_and_left, exists_const, Nat.sub_self, Nat.reduceSub, Nat.reduceAdd, List.append_nil, List.nil_append, List.length_map, Nat.add_zero, Nat.zero_add]
        refine bl_end hh ?_
        simpa only [sizesB, h1, h2, decide_true, decide_false, Bool.and_false, Bool.false_and] using k
    · have e1 : decide ((1 : Int) ≤ (xs.length : Int)) = false := decide_eq_false (by omega)
      simp only [e1, getK, setK, Option.isSome_some, eqM_int, neM_int, kit_ii, kit_bi, kit_ni, kit_si, kit_ti, kit_li, kit_ib, kit_bb, kit_tt, kit_it, kit_bt, kit_nt, kit_st, kit_lt, atI0, atI1, atI2, ixN30, ixN31, ixN32, mFn, startM, mSeq, mIf, mAsg, mRet, mRetN, mDrop, mNext, gN, gT, gsCons, gsNil, gIx, mVar, mInt, mBl, mNon, mStr, mC, mOp1, mOp2, int2, plusM, addM, mulM2, negM, isM, isNotM, isNoneM, tV, tNo, tAn, Mini.tOr, mAnd, mOr, mNot, Mini.notM, Bool.not_false, Bool.not_true, Bool.false_eq_true, if_false, if_true, reduceIte, mIfE, aNil, aCons, mTup, mLst, mLstC, mSl, slM, pNo, pAt, mB, mCall, lenM, listM, listMC, tupleM, intM, boolM, ixM, ixV, seqOf, lstOf, Mini.cellOf, mPar, mPar3, mLc, mLcC, mFor, iSeq, Mini.iRng1, Mini.iRng2, Mini.iEnum, Mini.iZip, mIsi, isiM, tyM, mMt, mMt0, appendM, extendM, popM, catF, catF.lstM, mChain, tAll, wipeM, mdK, Prod.mk.injEq, and_assoc, List.map_cons, List.map_nil, List.length_cons, List.length_nil, List.replicate, List.cons_append, List.nil_append, List.getElem?_cons_zero, List.getElem?_cons_succ, List.set_cons_zero, List.set_cons_succ, Option.some.injEq, exists_eq_left', exists_eq_left, true_and, and_true, List.cons.injEq, MV.int.injEq, MV.bl.injEq, MV.tup.injEq, MV.fl.injEq, MV.str.injEq, MV.ref.injEq, Option.bind_some, exists_and_left, exists_const, Nat.sub_self, Nat.reduceSub, Nat.reduceAdd, List.append_nil, List.nil_append, List.length_map, Nat.add_zero, Nat.zero_add]
      refine bl_end hh ?_
      simpa only [sizesB, h1, decide_false, Bool.false_and] using k
  all_goals (simp only [getK, setK, Option.isSome_some, eqM_int, neM_int, kit_ii, kit_bi, kit_ni, kit_si, kit_ti, kit_li, kit_ib, kit_bb, kit_tt, kit_it, kit_bt, kit_nt, kit_st, kit_lt, atI0, atI1, atI2, ixN30, ixN31, ixN32, mFn, startM, mSeq, mIf, mAsg, mRet, mRetN, mDrop, mNext, gN, gT, gsCons, gsNil, gIx, mVar, mInt, mBl, mNon, mStr, mC, mOp1, mOp2, int2, plusM, addM, mulM2, negM, isM, isNotM, isNoneM, tV, tNo, tAn, Mini.tOr, mAnd, mOr, mNot, Mini.notM, Bool.not_false, Bool.not_true, Bool.false_eq_true, if_false, if_true, reduceIte, mIfE, aNil, aCons, mTup, mLst, mLstC, mSl, slM, pNo, pAt, mB, mCall, lenM, listM, listMC, tupleM, intM, boolM, ixM, ixV, seqOf, lstOf, Mini.cellOf, mPar, mPar3, mLc, mLcC, mFor, iSeq, Mini.iRng1, Mini.iRng2, Mini.iEnum, Mini.iZip, mIsi, isiM, tyM, mMt, mMt0, appendM, extendM, popM, catF, catF.lstM, mChain, tAll, wipeM, mdK, Prod.mk.injEq, and_assoc, List.map_cons, List.map_nil, List.length_cons, List.length_nil, List.replicate, List.cons_append, List.nil_append, List.getElem?_cons_zero, List.getElem?_cons_succ, List.set_cons_zero, List.set_cons_succ, Option.some.injEq, exists_eq_left', exists_eq_left, true_and, and_true, List.cons.injEq, MV.int.injEq, MV.bl.injEq, MV.tup.injEq, MV.fl.injEq, MV.str.injEq, MV.ref.injEq, Option.bind_some, exists_and_left, exists_const, Nat.sub_self, Nat.reduceSub, Nat.reduceAdd, List.append_nil, List.nil_append, List.length_map, Nat.add_zero, Nat.zero_add]; exact bl_end hh k)
theorem planB_of {ss : List Int} {ws : List MV} : planB (.tup [.tup (ss.map .int), .tup ws]) = (sizesB (.tup (ss.map .int)) && (decide (ws.length ≤ 12) && (ws.all (waitB ss) && @decide (ascB ws) (Classical.propDecidable _)))) := by
  show (sizesB (.tup (ss.map .int)) && (decide (ws.length ≤ 12) && (ws.all (waitB ((ss.map MV.int).map toI)) && _))) = _
  rw [sizes_back]
theorem sizes_ints {v : MV} (h : sizesB v = true) : ∃ ss : List Int, v = .tup (ss.map .int) ∧ ss.length ≤ 4 ∧ 1 ≤ ss.length ∧ ∀ s ∈ ss, 1 ≤ s ∧ s ≤ 4 := by
  cases v <;> first | (simp [sizesB] at h; done) | skip
  case tup xs =>
    simp only [sizesB, Bool.and_eq_true, decide_eq_true_eq] at h
    obtain ⟨ss, rfl, hs⟩ := ints_of h.2
    rw [List.length_map] at h
    exact ⟨ss, rfl, h.1.2, h.1.1, hs⟩
theorem planB_ns {a b : MV} (h : sizesB a = false) : planB (.tup [a, b]) = false := by
  unfold planB
  split
  · rename_i xs ws e
    injection e with e
    injection e with e1 e2
    subst e1
    rw [h, Bool.false_and]
  · rfl
theorem planB_nt {a b : MV} (h : ∀ ws, b ≠ .tup ws) : planB (.tup [a, b]) = false := by
  unfold planB
  split
  · rename_i xs ws e
    injection e with e
    injection e with e1 e2
    injection e2 with e2
    exact absurd e2 (h ws)
  · rfl
theorem planB_len {xs : List MV} (h : xs.length ≠ 2) : planB (.tup xs) = false := by
  unfold planB
  split
  · rename_i e
    injection e with e
    rw [e] at h
    simp at h
  · rfl
theorem endless_plan_ok {v : MV} {h : MHp} (hh : Hh h) (hv : v.sok = true) {Q E : MQ} (k : Q (.bl (planB v)) h) : f_is_endless_plan [v] h Q E := by
  simp only [f_is_endless_plan, b_is_endless_plan, getK, setK, Option.isSome_some, eqM_int, neM_int, kit_ii, kit_bi, kit_ni, kit_si, kit_ti, kit_li, kit_ib, kit_bb, kit_tt, kit_it, kit_bt, kit_nt, kit_st, kit_lt, atI0, atI1, atI2, ixN30, ixN31, ixN32, mFn, startM, mSeq, mIf, mAsg, mRet, mRetN, mDrop, mNext, gN, gT, gsCons, gsNil, gIx, mVar, mInt, mBl, mNon, mStr, mC, mOp1, mOp2, int2, plusM, addM, mulM2, negM, isM, isNotM, isNoneM, tV, tNo, tAn, Mini.tOr, mAnd, mOr, mNot, Mini.notM, Bool.not_false, Bool.not_true, Bool.false_eq_true, if_false, if_true, reduceIte, mIfE, aNil, aCons, mTup, mLst, mLstC, mSl, slM, pNo, pAt, mB, mCall, lenM, listM, listMC, tupleM, intM, boolM, ixM, ixV, seqOf, lstOf, Mini.cellOf, mPar, mPar3, mLc, mLcC, mFor, iSeq, Mini.iRng1, Mini.iRng2, Mini.iEnum, Mini.iZip, mIsi, isiM, tyM, mMt, mMt0, appendM, extendM, popM, catF, catF.lstM, mChain, tAll, wipeM, mdK, Prod.mk.injEq, and_assoc, List.map_cons, List.map_nil, List.length_cons, List.length_nil, List.replicate, List.cons_append, List.nil_append, List.getElem?_cons_zero, List.getElem?_cons_succ, List.set_cons_zero, List.set_cons_succ, Option.some.injEq, exists_eq_left', exists_eq_left, true_and, and_true, List.cons.injEq, MV.int.injEq, MV.bl.injEq, MV.tup.injEq, MV.fl.injEq, MV.str.injEq, MV.ref.injEq, Option.bind_some, exists_and_left, exists_const, Nat.sub_self, Nat.reduceSub, Nat.reduceAdd, List.append_nil, List.nil_append, List.length_map, Nat.add_zero, Nat.zero_add]
  cases v <;> first | (simp [MV.sok] at hv; done) | skip
  case tup xs =>
    simp only [getK, setK, Option.isSome_some, eqM_int, neM_int, kit_ii, kit_bi, kit_ni, kit_si, kit_ti, kit_li, kit_ib, kit_bb, kit_tt, kit_it, kit_bt, kit_nt, kit_st, kit_lt, atI0, atI1, atI2, ixN30, ixN31, ixN32, mFn, startM, mSeq, mIf, mAsg, mRet, mRetN, mDrop, mNext, gN, gT, gsCons, gsNil, gIx, mVar, mInt, mBl, mNon, mStr, mC, mOp1, mOp2, int2, plusM, addM, mulM2, negM, isM, isNotM, isNoneM, tV, tNo, tAn, Mini.tOr, mAnd, mOr, mNot, Mini.notM, Bool.not_false, Bool.not_true, Bool.false_eq_true, if_false, if_true, reduceIte, mIfE, aNil, aCons, mTup, mLst, mLstC, mSl, slM, pNo, pAt, mB, mCall, lenM, listM, listMC, tupleM, intM, boolM, ixM, ixV, seqOf, lstOf, Mini.cellOf, mPar, mPar3, mLc, mLcC, mFor, iSeq, Mini.iRng1, Mini.iRng2, Mini.iEnum, Mini.iZip, mIsi, isiM, tyM, mMt, mMt0, appendM, extendM, popM, catF, catF.lstM, mChain, tAll, wipeM, mdK, Prod.mk.injEq, and_assoc, List.map_cons, List.map_nil, List.length_cons, List.length_nil, List.replicate, List.cons_append, List.nil_append, List.getElem?_cons_zero, List.getElem?_cons_succ, List.set_cons_zero, List.set_cons_succ, Option.some.injEq, exists_eq_left', exists_eq_left, true_and, and_true, List.cons.injEq, MV.int.injEq, MV.bl.injEq, MV.tup.injEq, MV.fl.injEq, MV.str.injEq, MV.ref.injEq, Option.bind_some, exists_and_left, exists_const, Nat.sub_self, Nat.reduceSub, Nat.reduceAdd, List.append_nil, List.nil_append, List.length_map, Nat.add_zero, Nat.zero_add]
    by_cases hl : xs.length = 2
    · obtain ⟨a, b, rfl⟩ := len2 hl
      obtain ⟨ha, hb⟩ := sok2 hv
      simp only [getK, setK, Option.isSome_some, eqM_int, neM_int, kit_ii, kit_bi, kit_ni, kit_si, kit_ti, kit_li, kit_ib, kit_bb, kit_tt, kit_it, kit_bt, kit_nt, kit_st, kit_lt, atI0, atI1, atI2, ixN30, ixN31, ixN32, mFn, startM, mSeq, mIf, mAsg, mRet, mRetN, mDrop, mNext, gN, gT, gsCons, gsNil, gIx, mVar, mInt, mBl, mNon, mStr, mC, mOp1, mOp2, int2, plusM, addM, mulM2, negM, isM, isNotM, isNoneM, tV, tNo, tAn, Mini.tOr, mAnd, mOr, mNot, Mini.notM, Bool.not_false, Bool.not_true, Bool.false_eq_true, if_false, if_true, reduceIte, mIfE, aNil, aCons, mTup, mLst, mLstC, mSl, slM, pNo, pAt, mB, mCall, lenM, listM, listMC, tupleM, intM, boolM, ixM, ixV, seqOf, lstOf, Mini.cellOf, mPar, mPar3, mLc, mLcC, mFor, iSeq, Mini.iRng1, Mini.iRng2, Mini.iEnum, Mini.iZip, mIsi, isiM, tyM, mMt, mMt0, appendM, extendM, popM, catF, catF.lstM, mChain, tAll, wipeM, mdK, Prod.mk.injEq, and_assoc, List.map_cons, List.map_nil, List.length_cons, List.length_nil, List.replicate, List.cons_append, List.nil_append, List.getElem?_cons_zero, List.getElem?_cons_succ, List.set_cons_zero, List.set_cons_succ, Option.some.injEq, exists_eq_left', exists_eq_left, true_and, and_true, List.cons.injEq, MV.int.injEq, MV.bl.injEq, MV.tup.injEq, MV.fl.injEq, MV.str.injEq, MV.ref.injEq, Option.bind_some, exists_and_left, exists_const, Nat.sub_self, Nat.reduceSub, Nat.reduceAdd, List.append_nil, List.nil_append, List.length_map, Nat.add_zero, Nat.zero_add]
      rw [if_neg (by decide)]
      refine sizes_ok hh ha ⟨_, rfl, ?_⟩
      cases m1 : sizesB a with
      | false =>
        simp only [getK, setK, Option.isSome_some, eqM_int, neM_int, kit_ii, kit_bi, kit_ni, kit_si, kit_ti, kit_li, kit_ib, kit_bb, kit_tt, kit_it, kit_bt, kit_nt, kit_st, kit_lt, atI0, atI1, atI2, ixN30, ixN31, ixN32, mFn, startM, mSeq, mIf, mAsg, mRet, mRetN, mDrop, mNext, gN, gT, gsCons, gsNil, gIx, mVar, mInt, mBl, mNon, mStr, mC, mOp1, mOp2, int2, plusM, addM, mulM2, negM, isM, isNotM, isNoneM, tV, tNo, tAn, Mini.tOr, mAnd, mOr, mNot, Mini.notM, Bool.not_false, Bool.not_true, Bool.false_eq_true, if_false, if_true, reduceIte, mIfE, aNil, aCons, mTup, mLst, mLstC, mSl, slM, pNo, pAt, mB, mCall, lenM, listM, listMC, tupleM, intM, boolM, ixM, ixV, seqOf, lstOf, Mini.cellOf, mPar, mPar3, mLc, mLcC, mFor, iSeq, Mini.iRng1, Mini.iRng2, Mini.iEnum, Mini.iZip, mIsi, isiM, tyM, mMt, mMt0, appendM, extendM, popM, catF, catF.lstM, mChain, tAll, wipeM, mdK, Prod.mk.injEq, and_assoc, List.map_cons, List.map_nil, List.length_cons, List.length_nil, List.replicate, List.cons_append, List.nil_append, List.getElem?_cons_zero, List.getElem?_cons_succ, List.set_cons_zero, List.set_cons_succ, Option.some.injEq, exists_eq_left', exists_eq_left, true_and, and_true, List.cons.injEq, MV.int.injEq, MV.bl.injEq, MV.tup.injEq, MV.fl.injEq, MV.str.injEq, MV.ref.injEq, Option.bind_some, exists_and_left, exists_const, Nat.sub_self, Nat.reduceSub, Nat.reduceAdd, List.append_nil, List.nil_append, List.length_map, Nat.add_zero, Nat.zero_add]
        rw [planB_ns m1] at k
        exact bl_end hh k
      | true =>
        obtain ⟨ss, rfl, l1, l2, _⟩ := sizes_ints m1
        simp only [getK, setK, Option.isSome_some, eqM_int, neM_int, kit_ii, kit_bi, kit_ni, kit_si, kit_ti, kit_li, kit_ib, kit_bb, kit_tt, kit_it, kit_bt, kit_nt, kit_st, kit_lt, atI0, atI1, atI2, ixN30, ixN31, ixN32, mFn, startM, mSeq, mIf, mAsg, mRet, mRetN, mDrop, mNext, gN, gT, gsCons, gsNil, gIx, mVar, mInt, mBl, mNon, mStr, mC, mOp1, mOp2, int2, plusM, addM, mulM2, negM, isM, isNotM, isNoneM, tV, tNo, tAn, Mini.tOr, mAnd, mOr, mNot, Mini.notM, Bool.not_false, Bool.not_true, Bool.false_eq_true, if_false, if_true, reduceIte, mIfE, aNil, aCons, mTup, mLst, mLstC, mSl, slM, pNo, pAt, mB, mCall, lenM, listM, listMC, tupleM, intM, boolM, ixM, ixV, seqOf, lstOf, Mini.cellOf, mPar, mPar3, mLc, mLcC, mFor, iSeq, Mini.iRng1, Mini.iRng2, Mini.iEnum, Mini.iZip, mIsi, isiM, tyM, mMt, mMt0, appendM, extendM, popM, catF, catF.lstM, mChain, tAll, wipeM, mdK, Prod.mk.injEq, and_assoc, List.map_cons, List.map_nil, List.length_cons, List.length_nil, List.replicate, List.cons_append, List.nil_append, List.getElem?_cons_zero, List.getElem?_cons_succ, List.set_cons_zero, List.set_cons_succ, Option.some.injEq, exists_eq_left', exists_eq_left, true_and, and_true, List.cons.injEq, MV.int.injEq, MV.bl.injEq, MV.tup.injEq, MV.fl.injEq, MV.str.injEq, MV.ref.injEq, Option.bind_some, exists_and_left, exists_const, Nat.sub_self, Nat.reduceSub, Nat.reduceAdd, List.append_nil, List.nil_append, List.length_map, Nat.add_zero, Nat.zero_add]
        cases b <;> first | (simp [MV.sok] at hb; done) | skip
        case tup ws =>
          have hw : sokAll ws = true := by simpa [MV.sok] using hb
          have hw' := sokAll_iff.mp hw
          simp only [getK, setK, Option.isSome_some, eqM_int, neM_int, kit_ii, kit_bi, kit_ni, kit_si, kit_ti, kit_li, kit_ib, kit_bb, kit_tt, kit_it, kit_bt, kit_nt, kit_st, kit_lt, atI0, atI1, atI2, ixN30, ixN31, ixN32, mFn, startM, mSeq, mIf, mAsg, mRet, mRetN, mDrop, mNext, gN, gT, gsCons, gsNil, gIx, mVar, mInt, mBl, mNon, mStr, mC, mOp1, mOp2, int2, plusM, addM, mulM2, negM, isM, isNotM, isNoneM, tV, tNo, tAn, Mini.tOr, mAnd, mOr, mNot, Mini.notM, Bool.not_false, Bool.not_true, Bool.false_eq_true, if_false, if_true, reduceIte, mIfE, aNil, aCons, mTup, mLst, mLstC, mSl, slM, pNo, pAt, mB, mCall, lenM, listM, listMC, tupleM, intM, boolM, ixM, ixV, seqOf, lstOf, Mini.cellOf, mPar, mPar3, mLc, mLcC, mFor, iSeq, Mini.iRng1, Mini.iRng2, Mini.iEnum, Mini.iZip, mIsi, isiM, tyM, mMt, mMt0, appendM, extendM, popM, catF, catF.lstM, mChain, tAll, wipeM, mdK, Prod.mk.injEq, and_assoc, List.map_cons, List.map_nil, List.length_cons, List.length_nil, List.replicate, List.cons_append, List.nil_append, List.getElem?_cons_zero, List.getElem?_cons_succ, List.set_cons_zero, List.set_cons_succ, Option.some.injEq, exists_eq_left', exists_eq_left, true_and, and_true, List.cons.injEq, MV.int.injEq, MV.bl.injEq, MV.tup.injEq, MV.fl.injEq, MV.str.injEq, MV.ref.injEq, Option.bind_some, exists_and_left, exists_const, Nat.sub_self, Nat.reduceSub, Nat.reduceAdd, List.append_nil, List.nil_append, List.length_map, Nat.add_zero, Nat.zero_add]
          by_cases h12 : ws.length ≤ 12
          · have e2 : decide ((12 : Int) < (ws.length : Int)) = false := decide_eq_false (by omega)
            simp only [e2, getK, setK, Option.isSome_some, eqM_int, neM_int, kit_ii, kit_bi, kit_ni, kit_si, kit_ti, kit_li, kit_ib, kit_bb, kit_tt, kit_it, kit_bt, kit_nt, kit_st, kit_lt, atI0, atI1, atI2, ixN30, ixN31, ixN32, mFn, startM, mSeq, mIf, mAsg, mRet, mRetN, mDrop, mNext, gN, gT, gsCons, gsNil, gIx, mVar, mInt, mBl, mNon, mStr, mC, mOp1, mOp2, int2, plusM, addM, mulM2, negM, isM, isNotM, isNoneM, tV, tNo, tAn, Mini.tOr, mAnd, mOr, mNot, Mini.notM, Bool.not_false, Bool.not_true, Bool.false_eq_true, if_false, if_true, reduceIte, mIfE, aNil, aCons, mTup, mLst, mLstC, mSl, slM, pNo, pAt, mB, mCall, lenM, listM, listMC, tupleM, intM, boolM, ixM, ixV, seqOf, lstOf, Mini.cellOf, mPar, mPar3, mLc, mLcC, mFor, iSeq, Mini.iRng1, Mini.iRng2, Mini.iEnum, Mini.iZip, mIsi, isiM, tyM, mMt, mMt0, appendM, extendM, popM, catF, catF.lstM, mChain, tAll, wipeM, mdK, Prod.mk.injEq, and_assoc, List.map_cons, List.map_nil, List.length_cons, List.length_nil, List.replicate, List.cons_append, List.nil_append, List.getElem?_cons_zero, List.getElem?_cons_succ, List.set_cons_zero, List.set_cons_succ, Option.some.injEq, exists_eq_left', exists_eq_left, true_and, and_true, List.cons.injEq, MV.int.injEq, MV.bl.injEq, MV.tup.injEq, MV.fl.injEq, MV.str.injEq, MV.ref.injEq, Option.bind_some, exists_and_left, exists_const, Nat.sub_self, Nat.reduceSub, Nat.reduceAdd, List.append_nil, List.nil_append, List.length_map, Nat.add_zero, Nat.zero_add]
            refine comp_pure (f := fun x => some (.bl (waitB ss x))) trivial ws [] (by rw [sizeLine_eq]; simp; omega) (fun x hx' acc K ha hk => ?_) ?_
            · simp only [tAll, getK, setK, Option.isSome_some, eqM_int, neM_int, kit_ii, kit_bi, kit_ni, kit_si, kit_ti, kit_li, kit_ib, kit_bb, kit_tt, kit_it, kit_bt, kit_nt, kit_st, kit_lt, atI0, atI1, atI2, ixN30, ixN31, ixN32, mFn, startM, mSeq, mIf, mAsg, mRet, mRetN, mDrop, mNext, gN, gT, gsCons, gsNil, gIx, mVar, mInt, mBl, mNon, mStr, mC, mOp1, mOp2, int2, plusM, addM, mulM2, negM, isM, isNotM, isNoneM, tV, tNo, tAn, Mini.tOr, mAnd, mOr, mNot, Mini.notM, Bool.not_false, Bool.not_true, Bool.false_eq_true, if_false, if_true, reduceIte, mIfE, aNil, aCons, mTup, mLst, mLstC, mSl, slM, pNo, pAt, mB, mCall, lenM, listM, listMC, tupleM, intM, boolM, ixM, ixV, seqOf, lstOf, Mini.cellOf, mPar, mPar3, mLc, mLcC, mFor, iSeq, Mini.iRng1, Mini.iRng2, Mini.iEnum, Mini.iZip, mIsi, isiM, tyM, mMt, mMt0, appendM, extendM, popM, catF, catF.lstM, mChain, tAll, wipeM, mdK, Prod.mk.injEq, and_assoc, List.map_cons, List.map_nil, List.length_cons, List.length_nil, List.replicate, List.cons_append, List.nil_append, List.getElem?_cons_zero, List.getElem?_cons_succ, List.set_cons_zero, List.set_cons_succ, Option.some.injEq, exists_eq_left', exists_eq_left, true_and, and_true, List.cons.injEq, MV.int.injEq, MV.bl.injEq, MV.tup.injEq, MV.fl.injEq, MV.str.injEq, MV.ref.injEq, Option.bind_some, exists_and_left, exists_const, Nat.sub_self, Nat.reduceSub, Nat.reduceAdd, List.append_nil, List.nil_append, List.length_map, Nat.add_zero, Nat.zero_add]
              exact linked_ok hh (hw' x hx') ⟨ha, hk⟩
            · rw [List.nil_append]
              refine all_ysB (p := waitB ss) ⟨_, rfl, ?_⟩
              rw [planB_of] at k
              simp only [m1, h12, decide_true, Bool.true_and] at k
              cases m2 : ws.all (waitB ss) with
              | false =>
                simp only [getK, setK, Option.isSome_some, eqM_int, neM_int, kit_ii, kit_bi, kit_ni, kit_si, kit_ti, kit_li, kit_ib, kit_bb, kit_tt, kit_it, kit_bt, kit_nt, kit_st, kit_lt, atI0, atI1, atI2, ixN30, ixN31, ixN32, mFn, startM, mSeq, mIf, mAsg, mRet, mRetN, mDrop, mNext, gN, gT, gsCons, gsNil, gIx, mVar, mInt, mBl, mNon, mStr, mC, mOp1, mOp2, int2, plusM, addM, mulM2, negM, isM, isNotM, isNoneM, tV, tNo, tAn, Mini.tOr, mAnd, mOr, mNot, Mini.notM, Bool.not_false, Bool.not_true, Bool.false_eq_true, if_false, if_true, reduceIte, mIfE, aNil, aCons, mTup, mLst, mLstC, mSl, slM, pNo, pAt, mB, mCall, lenM, listM, listMC, tupleM, intM, boolM, ixM, ixV, seqOf, lstOf, Mini.cellOf, mPar, mPar3, mLc, mLcC, mFor, iSeq, Mini.iRng1, Mini.iRng2, Mini.iEnum, Mini.iZip, mIsi, isiM, tyM, mMt, mMt0, appendM, extendM, popM, catF, catF.lstM, mChain, tAll, wipeM, mdK, Prod.mk.injEq, and_assoc, List.map_cons, List.map_nil, List.length_cons, List.length_nil, List.replicate, List.cons_append, List.nil_append, List.getElem?_cons_zero, List.getElem?_cons_succ, List.set_cons_zero, List.set_cons_succ, Option.some.injEq, exists_eq_left', exists_eq_left, true_and, and_true, List.cons.injEq, MV.int.injEq, MV.bl.injEq, MV.tup.injEq, MV.fl.injEq, MV.str.injEq, MV.ref.injEq, Option.bind_some, exists_and_left, exists_const, Nat.sub_self, Nat.reduceSub, Nat.reduceAdd, List.append_nil, List.nil_append, List.length_map, Nat.add_zero, Nat.zero_add]
                refine bl_end hh ?_
                simpa only [m2, Bool.false_and] using k
              | true =>
                obtain ⟨es, rfl⟩ := waits_of m2
                rw [List.length_map] at h12
                simp only [getK, setK, Option.isSome_some, eqM_int, neM_int, kit_ii, kit_bi, kit_ni, kit_si, kit_ti, kit_li, kit_ib, kit_bb, kit_tt, kit_it, kit_bt, kit_nt, kit_st, kit_lt, atI0, atI1, atI2, ixN30, ixN31, ixN32, mFn, startM, mSeq, mIf, mAsg, mRet, mRetN, mDrop, mNext, gN, gT, gsCons, gsNil, gIx, mVar, mInt, mBl, mNon, mStr, mC, mOp1, mOp2, int2, plusM, addM, mulM2, negM, isM, isNotM, isNoneM, tV, tNo, tAn, Mini.tOr, mAnd, mOr, mNot, Mini.notM, Bool.not_false, Bool.not_true, Bool.false_eq_true, if_false, if_true, reduceIte, mIfE, aNil, aCons, mTup, mLst, mLstC, mSl, slM, pNo, pAt, mB, mCall, lenM, listM, listMC, tupleM, intM, boolM, ixM, ixV, seqOf, lstOf, Mini.cellOf, mPar, mPar3, mLc, mLcC, mFor, iSeq, Mini.iRng1, Mini.iRng2, Mini.iEnum, Mini.iZip, mIsi, isiM, tyM, mMt, mMt0, appendM, extendM, popM, catF, catF.lstM, mChain, tAll, wipeM, mdK, Prod.mk.injEq, and_assoc, List.map_cons, List.map_nil, List.length_cons, List.length_nil, List.replicate, List.cons_append, List.nil_append, List.getElem?_cons_zero, List.getElem?_cons_succ, List.set_cons_zero, List.set_cons_succ, Option.some.injEq, exists_eq_left', exists_eq_left, true_and, and_true, List.cons.injEq, MV.int.injEq, MV.bl.injEq, MV.tup.injEq, MV.fl.injEq, MV.str.injEq, MV.ref.injEq, Option.bind_some, exists_and_left, exists_const, Nat.sub_self, Nat.reduceSub, Nat.reduceAdd, List.append_nil, List.nil_append, List.length_map, Nat.add_zero, Nat.zero_add]
                refine ascending_ok (by omega) hh (bl_end hh ?_)
                simp only [m2, Bool.true_and] at k
                have e3 : @decide (ascB (es.map wv)) (Classical.propDecidable _) = decide (es = asc es) := by
                  by_cases q : es = asc es
                  · rw [show decide (es = asc es) = true from decide_eq_true q]
                    exact @decide_eq_true _ (Classical.propDecidable _) (ascB_iff.mpr q)
                  · rw [show decide (es = asc es) = false from decide_eq_false q]
                    exact @decide_eq_false _ (Classical.propDecidable _) fun z => q (ascB_iff.mp z)
                rwa [e3] at k
          · have e2 : decide ((12 : Int) < (ws.length : Int)) = true := decide_eq_true (by omega)
            simp only [e2, getK, setK, Option.isSome_some, eqM_int, neM_int, kit_ii, kit_bi, kit_ni, kit_si, kit_ti, kit_li, kit_ib, kit_bb, kit_tt, kit_it, kit_bt, kit_nt, kit_st, kit_lt, atI0, atI1, atI2, ixN30, ixN31, ixN32, mFn, startM, mSeq, mIf, mAsg, mRet, mRetN, mDrop, mNext, gN, gT, gsCons, gsNil, gIx, mVar, mInt, mBl, mNon, mStr, mC, mOp1, mOp2, int2, plusM, addM, mulM2, negM, isM, isNotM, isNoneM, tV, tNo, tAn, Mini.tOr, mAnd, mOr, mNot, Mini.notM, Bool.not_false, Bool.not_true, Bool.false_eq_true, if_false, if_true, reduceIte, mIfE, aNil, aCons, mTup, mLst, mLstC, mSl, slM, pNo, pAt, mB, mCall, lenM, listM, listMC, tupleM, intM, boolM, ixM, ixV, seqOf, lstOf, Mini.cellOf, mPar, mPar3, mLc, mLcC, mFor, iSeq, Mini.iRng1, Mini.iRng2, Mini.iEnum, Mini.iZip, mIsi, isiM, tyM, mMt, mMt0, appendM, extendM, popM, catF, catF.lstM, mChain, tAll, wipeM, mdK, Prod.mk.injEq, and_assoc, List.map_cons, List.map_nil, List.length_cons, List.length_nil, List.replicate, List.cons_append, List.nil_append, List.getElem?_cons_zero, List.getElem?_cons_succ, List.set_cons_zero, List.set_cons_succ, Option.some.injEq, exists_eq_left', exists_eq_left, true_and, and_true, List.cons.injEq, MV.int.injEq, MV.bl.injEq, MV.tup.injEq, MV.fl.injEq, MV.str.injEq, MV.ref.injEq, Option.bind_some, exists_and_left, exists_const, Nat.sub_self, Nat.reduceSub, Nat.reduceAdd, List.append_nil, List.nil_append, List.length_map, Nat.add_zero, Nat.zero_add]
            refine bl_end hh ?_
            rw [planB_of] at k
            simpa only [m1, h12, decide_false, Bool.false_and, Bool.and_false] using k
        all_goals
          rw [planB_nt (fun ws e => by cases e)] at k
          simp only [getK, setK, Option.isSome_some, eqM_int, neM_int, kit_ii, kit_bi, kit_ni, kit_si, kit_ti, kit_li, kit_ib, kit_bb, kit_tt, kit_it, kit_bt, kit_nt, kit_st, kit_lt, atI0, atI1, atI2, ixN30, ixN31, ixN32, mFn, startM, mSeq, mIf, mAsg, mRet, mRetN, mDrop, mNext, gN, gT, gsCons, gsNil, gIx, mVar, mInt, mBl, mNon, mStr, mC, mOp1, mOp2, int2, plusM, addM, mulM2, negM, isM, isNotM, isNoneM, tV, tNo, tAn, Mini.tOr, mAnd, mOr, mNot, Mini.notM, Bool.not_false, Bool.not_true, Bool.false_eq_true, if_false, if_true, reduceIte, mIfE, aNil, aCons, mTup, mLst, mLstC, mSl, slM, pNo, pAt, mB, mCall, lenM, listM, listMC, tupleM, intM, boolM, ixM, ixV, seqOf, lstOf, Mini.cellOf, mPar, mPar3, mLc, mLcC, mFor, iSeq, Mini.iRng1, Mini.iRng2, Mini.iEnum, Mini.iZip, mIsi, isiM, tyM, mMt, mMt0, appendM, extendM, popM, catF, catF.lstM, mChain, tAll, wipeM, mdK, Prod.mk.injEq, and_assoc, List.map_cons, List.map_nil, List.length_cons, List.length_nil, List.replicate, List.cons_append, List.nil_append, List.getElem?_cons_zero, List.getElem?_cons_succ, List.set_cons_zero, List.set_cons_succ, Option.some.injEq, exists_eq_left', exists_eq_left, true_and, and_true, List.cons.injEq, MV.int.injEq, MV.bl.injEq, MV.tup.injEq, MV.fl.injEq, MV.str.injEq, MV.ref.injEq, Option.bind_some, exists_and_left, exists_const, Nat.sub_self, Nat.reduceSub, Nat.reduceAdd, List.append_nil, List.nil_append, List.length_map, Nat.add_zero, Nat.zero_add]
          exact bl_end hh k
    · have e : ((xs.length : Int) == 2) = false := by simp; omega
      simp only [e, getK, setK, Option.isSome_some, eqM_int, neM_int, kit_ii, kit_bi, kit_ni, kit_si, kit_ti, kit_li, kit_ib, kit_bb, kit_tt, kit_it, kit_bt, kit_nt, kit_st, kit_lt, atI0, atI1, atI2, ixN30, ixN31, ixN32, mFn, startM, mSeq, mIf, mAsg, mRet, mRetN, mDrop, mNext, gN, gT, gsCons, gsNil, gIx, mVar, mInt, mBl, mNon, mStr, mC, mOp1, mOp2, int2, plusM, addM, mulM2, negM, isM, isNotM, isNoneM, tV, tNo, tAn, Mini.tOr, mAnd, mOr, mNot, Mini.notM, Bool.not_false, Bool.not_true, Bool.false_eq_true, if_false, if_true, reduceIte, mIfE, aNil, aCons, mTup, mLst, mLstC, mSl, slM, pNo, pAt, mB, mCall, lenM, listM, listMC, tupleM, intM, boolM, ixM, ixV, seqOf, lstOf, Mini.cellOf, mPar, mPar3, mLc, mLcC, mFor, iSeq, Mini.iRng1, Mini.iRng2, Mini.iEnum, Mini.iZip, mIsi, isiM, tyM, mMt, mMt0, appendM, extendM, popM, catF, catF.lstM, mChain, tAll, wipeM, mdK, Prod.mk.injEq, and_assoc, List.map_cons, List.map_nil, List.length_cons, List.length_nil, List.replicate, List.cons_append, List.nil_append, List.getElem?_cons_zero, List.getElem?_cons_succ, List.set_cons_zero, List.set_cons_succ, Option.some.injEq, exists_eq_left', exists_eq_left, true_and, and_true, List.cons.injEq, MV.int.injEq, MV.bl.injEq, MV.tup.injEq, MV.fl.injEq, MV.str.injEq, MV.ref.injEq, Option.bind_some, exists_and_left, exists_const, Nat.sub_self, Nat.reduceSub, Nat.reduceAdd, List.append_nil, List.nil_append, List.length_map, Nat.add_zero, Nat.zero_add]
      refine bl_end hh ?_
      rwa [planB_len hl] at k
  all_goals
    simp only [getK, setK, Option.isSome_some, eqM_int, neM_int, kit_ii, kit_bi, kit_ni, kit_si, kit_ti, kit_li, kit_ib, kit_bb, kit_tt, kit_it, kit_bt, kit_nt, kit_st, kit_lt, atI0, atI1, atI2, ixN30, ixN31, ixN32, mFn, startM, mSeq, mIf, mAsg, mRet, mRetN, mDrop, mNext, gN, gT, gsCons, gsNil, gIx, mVar, mInt, mBl, mNon, mStr, mC, mOp1, mOp2, int2, plusM, addM, mulM2, negM, isM, isNotM, isNoneM, tV, tNo, tAn, Mini.tOr, mAnd, mOr, mNot, Mini.notM, Bool.not_false, Bool.not_true, Bool.false_eq_true, if_false, if_true, reduceIte, mIfE, aNil, aCons, mTup, mLst, mLstC, mSl, slM, pNo, pAt, mB, mCall, lenM, listM, listMC, tupleM, intM, boolM, ixM, ixV, seqOf, lstOf, Mini.cellOf, mPar, mPar3, mLc, mLcC, mFor, iSeq, Mini.iRng1, Mini.iRng2, Mini.iEnum, Mini.iZip, mIsi, isiM, tyM, mMt, mMt0, appendM, extendM, popM, catF, catF.lstM, mChain, tAll, wipeM, mdK, Prod.mk.injEq, and_assoc, List.map_cons, List.map_nil, List.length_cons, List.length_nil, List.replicate, List.cons_append, List.nil_append, List.getElem?_cons_zero, List.getElem?_cons_succ, List.set_cons_zero, List.set_cons_succ, Option.some.injEq, exists_eq_left', exists_eq_left, true_and, and_true, List.cons.injEq, MV.int.injEq, MV.bl.injEq, MV.tup.injEq, MV.fl.injEq, MV.str.injEq, MV.ref.injEq, Option.bind_some, exists_and_left, exists_const, Nat.sub_self, Nat.reduceSub, Nat.reduceAdd, List.append_nil, List.nil_append, List.length_map, Nat.add_zero, Nat.zero_add]
    exact bl_end hh k

theorem plan_body : b__law_is_plan =
    (mSeq (mIf (tOr (tNo (tV (mIsi "tuple" (mVar 0)))) (tOr (tV (mOp2 neM (mB lenM (aCons (mVar 0) aNil)) (mInt 2))) (tNo (tV (mIsi "tuple" (mOp2 ixM (mVar 0) (mInt 0))))))) (mRet (mBl false)) mNext)
    (mSeq (mAsg (mVar 0) (gT (gsCons (gN 2) (gsCons (gN 3) gsNil)) 2))
    (mSeq (mIf (tOr (tNo (tV (mChain leM leM (mInt 1) (mB lenM (aCons (mVar 2) aNil)) (mInt 4)))) (tV (mOp2 inSeqM (mBl false) (mLc (iSeq (mVar 2)) (gN 4) tAll (mCall f__law_is_whole (aCons (mVar 4) (aCons (mInt 1) (aCons (mInt 4) aNil)))) [4])))) (mRet (mBl false)) mNext)
    (mSeq (mIf (tOr (tNo (tV (mIsi "tuple" (mVar 3)))) (tV (mOp2 gtM (mB lenM (aCons (mVar 3) aNil)) (mInt 12)))) (mRet (mBl false)) mNext)
    (mSeq (mFor (iSeq (mVar 3)) (gN 1) lp)
    (mRet (mOp2 eqM (mB sortSetM (aCons (mB setM (aCons (mVar 3) aNil)) aNil)) (mB listM (aCons (mVar 3) aNil))))))))) := rfl
theorem law_plan_ok {v : MV} {h : MHp} (hh : Hh h) (hv : v.sok = true) {Q E : MQ} (k : Q (.bl (planB v)) h) : f__law_is_plan [v] h Q E := by
  simp only [f__law_is_plan, plan_body, getK, setK, Option.isSome_some, eqM_int, neM_int, kit_ii, kit_bi, kit_ni, kit_si, kit_ti, kit_li, kit_ib, kit_bb, kit_tt, kit_it, kit_bt, kit_nt, kit_st, kit_lt, atI0, atI1, atI2, ixN30, ixN31, ixN32, mFn, startM, mSeq, mIf, mAsg, mRet, mRetN, mDrop, mNext, gN, gT, gsCons, gsNil, gIx, mVar, mInt, mBl, mNon, mStr, mC, mOp1, mOp2, int2, plusM, addM, mulM2, negM, isM, isNotM, isNoneM, tV, tNo, tAn, Mini.tOr, mAnd, mOr, mNot, Mini.notM, Bool.not_false, Bool.not_true, Bool.false_eq_true, if_false, if_true, reduceIte, mIfE, aNil, aCons, mTup, mLst, mLstC, mSl, slM, pNo, pAt, mB, mCall, lenM, listM, listMC, tupleM, intM, boolM, ixM, ixV, seqOf, lstOf, Mini.cellOf, mPar, mPar3, mLc, mLcC, mFor, iSeq, Mini.iRng1, Mini.iRng2, Mini.iEnum, Mini.iZip, mIsi, isiM, tyM, mMt, mMt0, appendM, extendM, popM, catF, catF.lstM, mChain, tAll, wipeM, mdK, Prod.mk.injEq, and_assoc, List.map_cons, List.map_nil, List.length_cons, List.length_nil, List.replicate, List.cons_append, List.nil_append, List.getElem?_cons_zero, List.getElem?_cons_succ, List.set_cons_zero, List.set_cons_succ, Option.some.injEq, exists_eq_left', exists_eq_left, true_and, and_true, List.cons.injEq, MV.int.injEq, MV.bl.injEq, MV.tup.injEq, MV.fl.injEq, MV.str.injEq, MV.ref.injEq, Option.bind_some, exists_and_left, exists_const, Nat.sub_self, Nat.reduceSub, Nat.reduceAdd, List.append_nil, List.nil_append, List.length_map, Nat.add_zero, Nat.zero_add]
  cases v <;> first | (simp [MV.sok] at hv; done) | skip
  case tup xs =>
    simp only [getK, setK, Option.isSome_some, eqM_int, neM_int, kit_ii, kit_bi, kit_ni, kit_si, kit_ti, kit_li, kit_ib, kit_bb, kit_tt, kit_it, kit_bt, kit_nt, kit_st, kit_lt, atI0, atI1, atI2, ixN30, ixN31, ixN32, mFn, startM, mSeq, mIf, mAsg, mRet, mRetN, mDrop, mNext, gN, gT, gsCons, gsNil, gIx, mVar, mInt, mBl, mNon, mStr, mC, mOp1, mOp2, int2, plusM, addM, mulM2, negM, isM, isNotM, isNoneM, tV, tNo, tAn, Mini.tOr, mAnd, mOr, mNot, Mini.notM, Bool.not_false, Bool.not_true, Bool.false_eq_true, if_false, if_true, reduceIte, mIfE, aNil, aCons, mTup, mLst, mLstC, mSl, slM, pNo, pAt, mB, mCall, lenM, listM, listMC, tupleM, intM, boolM, ixM, ixV, seqOf, lstOf, Mini.cellOf, mPar, mPar3, mLc, mLcC, mFor, iSeq, Mini.iRng1, Mini.iRng2, Mini.iEnum, Mini.iZip, mIsi, isiM, tyM, mMt, mMt0, appendM, extendM, popM, catF, catF.lstM, mChain, tAll, wipeM, mdK, Prod.mk.injEq, and_assoc, List.map_cons, List.map_nil, List.length_cons, List.length_nil, List.replicate, List.cons_append, List.nil_append, List.getElem?_cons_zero, List.getElem?_cons_succ, List.set_cons_zero, List.set_cons_succ, Option.some.injEq, exists_eq_left', exists_eq_left, true_and, and_true, List.cons.injEq, MV.int.injEq, MV.bl.injEq, MV.tup.injEq, MV.fl.injEq, MV.str.injEq, MV.ref.injEq, Option.bind_some, exists_and_left, exists_const, Nat.sub_self, Nat.reduceSub, Nat.reduceAdd, List.append_nil, List.nil_append, List.length_map, Nat.add_zero, Nat.zero_add]
    by_cases hl : xs.length = 2
    · obtain ⟨a, b, rfl⟩ := len2 hl
      obtain ⟨ha, hb⟩ := sok2 hv
      simp only [getK, setK, Option.isSome_some, eqM_int, neM_int, kit_ii, kit_bi, kit_ni, kit_si, kit_ti, kit_li, kit_ib, kit_bb, kit_tt, kit_it, kit_bt, kit_nt, kit_st, kit_lt, atI0, atI1, atI2, ixN30, ixN31, ixN32, mFn, startM, mSeq, mIf, mAsg, mRet, mRetN, mDrop, mNext, gN, gT, gsCons, gsNil, gIx, mVar, mInt, mBl, mNon, mStr, mC, mOp1, mOp2, int2, plusM, addM, mulM2, negM, isM, isNotM, isNoneM, tV, tNo, tAn, Mini.tOr, mAnd, mOr, mNot, Mini.notM, Bool.not_false, Bool.not_true, Bool.false_eq_true, if_false, if_true, reduceIte, mIfE, aNil, aCons, mTup, mLst, mLstC, mSl, slM, pNo, pAt, mB, mCall, lenM, listM, listMC, tupleM, intM, boolM, ixM, ixV, seqOf, lstOf, Mini.cellOf, mPar, mPar3, mLc, mLcC, mFor, iSeq, Mini.iRng1, Mini.iRng2, Mini.iEnum, Mini.iZip, mIsi, isiM, tyM, mMt, mMt0, appendM, extendM, popM, catF, catF.lstM, mChain, tAll, wipeM, mdK, Prod.mk.injEq, and_assoc, List.map_cons, List.map_nil, List.length_cons, List.length_nil, List.replicate, List.cons_append, List.nil_append, List.getElem?_cons_zero, List.getElem?_cons_succ, List.set_cons_zero, List.set_cons_succ, Option.some.injEq, exists_eq_left', exists_eq_left, true_and, and_true, List.cons.injEq, MV.int.injEq, MV.bl.injEq, MV.tup.injEq, MV.fl.injEq, MV.str.injEq, MV.ref.injEq, Option.bind_some, exists_and_left, exists_const, Nat.sub_self, Nat.reduceSub, Nat.reduceAdd, List.append_nil, List.nil_append, List.length_map, Nat.add_zero, Nat.zero_add]
      rw [if_neg (by decide)]
      cases a <;> first | (simp [MV.sok] at ha; done) | skip
      case tup xs =>
        have hx := sokAll_iff.mp (show sokAll xs = true by simpa [MV.sok] using ha)
        simp only [getK, setK, Option.isSome_some, eqM_int, neM_int, kit_ii, kit_bi, kit_ni, kit_si, kit_ti, kit_li, kit_ib, kit_bb, kit_tt, kit_it, kit_bt, kit_nt, kit_st, kit_lt, atI0, atI1, atI2, ixN30, ixN31, ixN32, mFn, startM, mSeq, mIf, mAsg, mRet, mRetN, mDrop, mNext, gN, gT, gsCons, gsNil, gIx, mVar, mInt, mBl, mNon, mStr, mC, mOp1, mOp2, int2, plusM, addM, mulM2, negM, isM, isNotM, isNoneM, tV, tNo, tAn, Mini.tOr, mAnd, mOr, mNot, Mini.notM, Bool.not_false, Bool.not_true, Bool.false_eq_true, if_false, if_true, reduceIte, mIfE, aNil, aCons, mTup, mLst, mLstC, mSl, slM, pNo, pAt, mB, mCall, lenM, listM, listMC, tupleM, intM, boolM, ixM, ixV, seqOf, lstOf, Mini.cellOf, mPar, mPar3, mLc, mLcC, mFor, iSeq, Mini.iRng1, Mini.iRng2, Mini.iEnum, Mini.iZip, mIsi, isiM, tyM, mMt, mMt0, appendM, extendM, popM, catF, catF.lstM, mChain, tAll, wipeM, mdK, Prod.mk.injEq, and_assoc, List.map_cons, List.map_nil, List.length_cons, List.length_nil, List.replicate, List.cons_append, List.nil_append, List.getElem?_cons_zero, List.getElem?_cons_succ, List.set_cons_zero, List.set_cons_succ, Option.some.injEq, exists_eq_left', exists_eq_left, true_and, and_true, List.cons.injEq, MV.int.injEq, MV.bl.injEq, MV.tup.injEq, MV.fl.injEq, MV.str.injEq, MV.ref.injEq, Option.bind_some, exists_and_left, exists_const, Nat.sub_self, Nat.reduceSub, Nat.reduceAdd, List.append_nil, List.nil_append, List.length_map, Nat.add_zero, Nat.zero_add]
        by_cases h1 : 1 ≤ xs.length
        · have e1 : decide ((1 : Int) ≤ (xs.length : Int)) = true := decide_eq_true (by omega)
          simp only [e1, getK, setK, Option.isSome_some, eqM_int, neM_int, kit_ii, kit_bi, kit_ni, kit_si, kit_ti, kit_li, kit_ib, kit_bb, kit_tt, kit_it, kit_bt, kit_nt, kit_st, kit_lt, atI0, atI1, atI2, ixN30, ixN31, ixN32, mFn, startM, mSeq, mIf, mAsg, mRet, mRetN, mDrop, mNext, gN, gT, gsCons, gsNil, gIx, mVar, mInt, mBl, mNon, mStr, mC, mOp1, mOp2, int2, plusM, addM, mulM2, negM, isM, isNotM, isNoneM, tV, tNo, tAn, Mini.tOr, mAnd, mOr, mNot, Mini.notM, Bool.not_false, Bool.not_true, Bool.false_eq_true, if_false, if_true, reduceIte, mIfE, aNil, aCons, mTup, mLst, mLstC, mSl, slM, pNo, pAt, mB, mCall, lenM, listM, listMC, tupleM, intM, boolM, ixM, ixV, seqOf, lstOf, Mini.cellOf, mPar, mPar3, mLc, mLcC, mFor, iSeq, Mini.iRng1, Mini.iRng2, Mini.iEnum, Mini.iZip, mIsi, isiM, tyM, mMt, mMt0, appendM, extendM, popM, catF, catF.lstM, mChain, tAll, wipeM, mdK, Prod.mk.injEq, and_assoc, List.map_cons, List.map_nil, List.length_cons, List.length_nil, List.replicate, List.cons_append, List.nil_append, List.getElem?_cons_zero, List.getElem?_cons_succ, List.set_cons_zero, List.set_cons_succ, Option.some.injEq, exists_eq_left', exists_eq_left, true_and, and_true, List.cons.injEq, MV.int.injEq, MV.bl.injEq, MV.tup.injEq, MV.fl.injEq, MV.str.injEq, MV.ref.injEq, Option.bind_some, exists_and_left, exists_const, Nat.sub_self, Nat.reduceSub, Nat.reduceAdd, List.append_nil, List.nil_append, List.length_map, Nat.add_zero, Nat.zero_add]
          by_cases h2 : xs.length ≤ 4
          · have e2 : decide ((xs.length : Int) ≤ 4) = true := decide_eq_true (by omega)
            simp only [e2, getK, setK, Option.isSome_some, eqM_int, neM_int, kit_ii, kit_bi, kit_ni, kit_si, kit_ti, kit_li, kit_ib, kit_bb, kit_tt, kit_it, kit_bt, kit_nt, kit_st, kit_lt, atI0, atI1, atI2, ixN30, ixN31, ixN32, mFn, startM, mSeq, mIf, mAsg, mRet, mRetN, mDrop, mNext, gN, gT, gsCons, gsNil, gIx, mVar, mInt, mBl, mNon, mStr, mC, mOp1, mOp2, int2, plusM, addM, mulM2, negM, isM, isNotM, isNoneM, tV, tNo, tAn, Mini.tOr, mAnd, mOr, mNot, Mini.notM, Bool.not_false, Bool.not_true, Bool.false_eq_true, if_false, if_true, reduceIte, mIfE, aNil, aCons, mTup, mLst, mLstC, mSl, slM, pNo, pAt, mB, mCall, lenM, listM, listMC, tupleM, intM, boolM, ixM, ixV, seqOf, lstOf, Mini.cellOf, mPar, mPar3, mLc, mLcC, mFor, iSeq, Mini.iRng1, Mini.iRng2, Mini.iEnum, Mini.iZip, mIsi, isiM, tyM, mMt, mMt0, appendM, extendM, popM, catF, catF.lstM, mChain, tAll, wipeM, mdK, Prod.mk.injEq, and_assoc, List.map_cons, List.map_nil, List.length_cons, List.length_nil, List.replicate, List.cons_append, List.nil_append, List.getElem?_cons_zero, List.getElem?_cons_succ, List.set_cons_zero, List.set_cons_succ, Option.some.injEq, exists_eq_left', exists_eq_left, true_and, and_true, List.cons.injEq, MV.int.injEq, MV.bl.injEq, MV.tup.injEq, MV.fl.injEq, MV.str.injEq, MV.ref.injEq, Option.bind_some, exists_and_left, exists_const, Nat.sub_self, Nat.reduceSub, Nat.reduceAdd, List.append_nil, List.nil_append, List.length_map, Nat.add_zero, Nat.zero_add]
            refine comp_pure (f := fun x => some (.bl (wholeB x 1 4))) trivial xs [] (by rw [sizeLine_eq]; simp; omega) (fun x hx' acc K ha hk => ?_) ?_
            · simp only [tAll, getK, setK, Option.isSome_some, eqM_int, neM_int, kit_ii, kit_bi, kit_ni, kit_si, kit_ti, kit_li, kit_ib, kit_bb, kit_tt, kit_it, kit_bt, kit_nt, kit_st, kit_lt, atI0, atI1, atI2, ixN30, ixN31, ixN32, mFn, startM, mSeq, mIf, mAsg, mRet, mRetN, mDrop, mNext, gN, gT, gsCons, gsNil, gIx, mVar, mInt, mBl, mNon, mStr, mC, mOp1, mOp2, int2, plusM, addM, mulM2, negM, isM, isNotM, isNoneM, tV, tNo, tAn, Mini.tOr, mAnd, mOr, mNot, Mini.notM, Bool.not_false, Bool.not_true, Bool.false_eq_true, if_false, if_true, reduceIte, mIfE, aNil, aCons, mTup, mLst, mLstC, mSl, slM, pNo, pAt, mB, mCall, lenM, listM, listMC, tupleM, intM, boolM, ixM, ixV, seqOf, lstOf, Mini.cellOf, mPar, mPar3, mLc, mLcC, mFor, iSeq, Mini.iRng1, Mini.iRng2, Mini.iEnum, Mini.iZip, mIsi, isiM, tyM, mMt, mMt0, appendM, extendM, popM, catF, catF.lstM, mChain, tAll, wipeM, mdK, Prod.mk.injEq, and_assoc, List.map_cons, List.map_nil, List.length_cons, List.length_nil, List.replicate, List.cons_append, List.nil_append, List.getElem?_cons_zero, List.getElem?_cons_succ, List.set_cons_zero, List.set_cons_succ, Option.some.injEq, exists_eq_left', exists_eq_left, true_and, and_true, List.cons.injEq, MV.int.injEq, MV.bl.injEq, MV.tup.injEq, MV.fl.injEq, MV.str.injEq, MV.ref.injEq, Option.bind_some, exists_and_left, exists_const, Nat.sub_self, Nat.reduceSub, Nat.reduceAdd, List.append_nil, List.nil_append, List.length_map, Nat.add_zero, Nat.zero_add]
              exact whole_ok hh (hx x hx') ⟨ha, hk⟩
            · rw [List.nil_append]
              refine in_ysB (p := fun x => wholeB x 1 4) ⟨_, rfl, ?_⟩
              cases m1 : xs.all (fun x => wholeB x 1 4) with
              | false =>
                simp only [getK, setK, Option.isSome_some, eqM_int, neM_int, kit_ii, kit_bi, kit_ni, kit_si, kit_ti, kit_li, kit_ib, kit_bb, kit_tt, kit_it, kit_bt, kit_nt, kit_st, kit_lt, atI0, atI1, atI2, ixN30, ixN31, ixN32, mFn, startM, mSeq, mIf, mAsg, mRet, mRetN, mDrop, mNext, gN, gT, gsCons, gsNil, gIx, mVar, mInt, mBl, mNon, mStr, mC, mOp1, mOp2, int2, plusM, addM, mulM2, negM, isM, isNotM, isNoneM, tV, tNo, tAn, Mini.tOr, mAnd, mOr, mNot, Mini.notM, Bool.not_false, Bool.not_true, Bool.false_eq_true, if_false, if_true, reduceIte, mIfE, aNil, aCons, mTup, mLst, mLstC, mSl, slM, pNo, pAt, mB, mCall, lenM, listM, listMC, tupleM, intM, boolM, ixM, ixV, seqOf, lstOf, Mini.cellOf, mPar, mPar3, mLc, mLcC, mFor, iSeq, Mini.iRng1, Mini.iRng2, Mini.iEnum, Mini.iZip, mIsi, isiM, tyM, mMt, mMt0, appendM, extendM, popM, catF, catF.lstM, mChain, tAll, wipeM, mdK, Prod.mk.injEq, and_assoc, List.map_cons, List.map_nil, List.length_cons, List.length_nil, List.replicate, List.cons_append, List.nil_append, List.getElem?_cons_zero, List.getElem?_cons_succ, List.set_cons_zero, List.set_cons_succ, Option.some.injEq, exists_eq_left', exists_eq_left, true_and, and_true, List.cons.injEq, MV.int.injEq, MV.bl.injEq, MV.tup.injEq, MV.fl.injEq, MV.str.injEq, MV.ref.injEq, Option.bind_some, exists_and_left, exists_const, Nat.sub_self, Nat.reduceSub, Nat.reduceAdd, List.append_nil, List.nil_append, List.length_map, Nat.add_zero, Nat.zero_add]
                refine bl_end hh ?_
                rw [planB_ns (by simp only [sizesB, m1, Bool.and_false])] at k
                exact k
              | true =>
                have ms : sizesB (.tup xs) = true := by simp only [sizesB, m1, h1, h2, decide_true, Bool.and_self]
                obtain ⟨ss, rfl, hs⟩ := ints_of m1
                simp only [getK, setK, Option.isSome_some, eqM_int, neM_int, kit_ii, kit_bi, kit_ni, kit_si, kit_ti, kit_li, kit_ib, kit_bb, kit_tt, kit_it, kit_bt, kit_nt, kit_st, kit_lt, atI0, atI1, atI2, ixN30, ixN31, ixN32, mFn, startM, mSeq, mIf, mAsg, mRet, mRetN, mDrop, mNext, gN, gT, gsCons, gsNil, gIx, mVar, mInt, mBl, mNon, mStr, mC, mOp1, mOp2, int2, plusM, addM, mulM2, negM, isM, isNotM, isNoneM, tV, tNo, tAn, Mini.tOr, mAnd, mOr, mNot, Mini.notM, Bool.not_false, Bool.not_true, Bool.false_eq_true, if_false, if_true, reduceIte, mIfE, aNil, aCons, mTup, mLst, mLstC, mSl, slM, pNo, pAt, mB, mCall, lenM, listM, listMC, tupleM, intM, boolM, ixM, ixV, seqOf, lstOf, Mini.cellOf, mPar, mPar3, mLc, mLcC, mFor, iSeq, Mini.iRng1, Mini.iRng2, Mini.iEnum, Mini.iZip, mIsi, isiM, tyM, mMt, mMt0, appendM, extendM, popM, catF, catF.lstM, mChain, tAll, wipeM, mdK, Prod.mk.injEq, and_assoc, List.map_cons, List.map_nil, List.length_cons, List.length_nil, List.replicate, List.cons_append, List.nil_append, List.getElem?_cons_zero, List.getElem?_cons_succ, List.set_cons_zero, List.set_cons_succ, Option.some.injEq, exists_eq_left', exists_eq_left, true_and, and_true, List.cons.injEq, MV.int.injEq, MV.bl.injEq, MV.tup.injEq, MV.fl.injEq, MV.str.injEq, MV.ref.injEq, Option.bind_some, exists_and_left, exists_const, Nat.sub_self, Nat.reduceSub, Nat.reduceAdd, List.append_nil, List.nil_append, List.length_map, Nat.add_zero, Nat.zero_add]
                cases b <;> first | (simp [MV.sok] at hb; done) | skip
                case tup ws =>
                  have hw : sokAll ws = true := by simpa [MV.sok] using hb
                  simp only [getK, setK, Option.isSome_some, eqM_int, neM_int, kit_ii, kit_bi, kit_ni, kit_si, kit_ti, kit_li, kit_ib, kit_bb, kit_tt, kit_it, kit_bt, kit_nt, kit_st, kit_lt, atI0, atI1, atI2, ixN30, ixN31, ixN32, mFn, startM, mSeq, mIf, mAsg, mRet, mRetN, mDrop, mNext, gN, gT, gsCons, gsNil, gIx, mVar, mInt, mBl, mNon, mStr, mC, mOp1, mOp2, int2, plusM, addM, mulM2, negM, isM, isNotM, isNoneM, tV, tNo, tAn, Mini.tOr, mAnd, mOr, mNot, Mini.notM, Bool.not_false, Bool.not_true, Bool.false_eq_true, if_false, if_true, reduceIte, mIfE, aNil, aCons, mTup, mLst, mLstC, mSl, slM, pNo, pAt, mB, mCall, lenM, listM, listMC, tupleM, intM, boolM, ixM, ixV, seqOf, lstOf, Mini.cellOf, mPar, mPar3, mLc, mLcC, mFor, iSeq, Mini.iRng1, Mini.iRng2, Mini.iEnum, Mini.iZip, mIsi, isiM, tyM, mMt, mMt0, appendM, extendM, popM, catF, catF.lstM, mChain, tAll, wipeM, mdK, Prod.mk.injEq, and_assoc, List.map_cons, List.map_nil, List.length_cons, List.length_nil, List.replicate, List.cons_append, List.nil_append, List.getElem?_cons_zero, List.getElem?_cons_succ, List.set_cons_zero, List.set_cons_succ, Option.some.injEq, exists_eq_left', exists_eq_left, true_and, and_true, List.cons.injEq, MV.int.injEq, MV.bl.injEq, MV.tup.injEq, MV.fl.injEq, MV.str.injEq, MV.ref.injEq, Option.bind_some, exists_and_left, exists_const, Nat.sub_self, Nat.reduceSub, Nat.reduceAdd, List.append_nil, List.nil_append, List.length_map, Nat.add_zero, Nat.zero_add]
                  rw [planB_of] at k
                  by_cases h12 : ws.length ≤ 12
                  · have e2 : decide ((12 : Int) < (ws.length : Int)) = false := decide_eq_false (by omega)
                    simp only [e2, getK, setK, Option.isSome_some, eqM_int, neM_int, kit_ii, kit_bi, kit_ni, kit_si, kit_ti, kit_li, kit_ib, kit_bb, kit_tt, kit_it, kit_bt, kit_nt, kit_st, kit_lt, atI0, atI1, atI2, ixN30, ixN31, ixN32, mFn, startM, mSeq, mIf, mAsg, mRet, mRetN, mDrop, mNext, gN, gT, gsCons, gsNil, gIx, mVar, mInt, mBl, mNon, mStr, mC, mOp1, mOp2, int2, plusM, addM, mulM2, negM, isM, isNotM, isNoneM, tV, tNo, tAn, Mini.tOr, mAnd, mOr, mNot, Mini.notM, Bool.not_false, Bool.not_true, Bool.false_eq_true, if_false, if_true, reduceIte, mIfE, aNil, aCons, mTup, mLst, mLstC, mSl, slM, pNo, pAt, mB, mCall, lenM, listM, listMC, tupleM, intM, boolM, ixM, ixV, seqOf, lstOf, Mini.cellOf, mPar, mPar3, mLc, mLcC, mFor, iSeq, Mini.iRng1, Mini.iRng2, Mini.iEnum, Mini.iZip, mIsi, isiM, tyM, mMt, mMt0, appendM, extendM, popM, catF, catF.lstM, mChain, tAll, wipeM, mdK, Prod.mk.injEq, and_assoc, List.map_cons, List.map_nil, List.length_cons, List.length_nil, List.replicate, List.cons_append, List.nil_append, List.getElem?_cons_zero, List.getElem?_cons_succ, List.set_cons_zero, List.set_cons_succ, Option.some.injEq, exists_eq_left', exists_eq_left, true_and, and_true, List.cons.injEq, MV.int.injEq, MV.bl.injEq, MV.tup.injEq, MV.fl.injEq, MV.str.injEq, MV.ref.injEq, Option.bind_some, exists_and_left, exists_const, Nat.sub_self, Nat.reduceSub, Nat.reduceAdd, List.append_nil, List.nil_append, List.length_map, Nat.add_zero, Nat.zero_add]
                    simp only [ms, h12, decide_true, Bool.true_and] at k
                    refine loop_ok hh rfl ws _ hw (fun m2 s1 => ?_) fun m2 => ?_
                    · obtain ⟨es, rfl⟩ := waits_of m2
                      rw [List.length_map] at h12
                      simp only [getK, setK, Option.isSome_some, eqM_int, neM_int, kit_ii, kit_bi, kit_ni, kit_si, kit_ti, kit_li, kit_ib, kit_bb, kit_tt, kit_it, kit_bt, kit_nt, kit_st, kit_lt, atI0, atI1, atI2, ixN30, ixN31, ixN32, mFn, startM, mSeq, mIf, mAsg, mRet, mRetN, mDrop, mNext, gN, gT, gsCons, gsNil, gIx, mVar, mInt, mBl, mNon, mStr, mC, mOp1, mOp2, int2, plusM, addM, mulM2, negM, isM, isNotM, isNoneM, tV, tNo, tAn, Mini.tOr, mAnd, mOr, mNot, Mini.notM, Bool.not_false, Bool.not_true, Bool.false_eq_true, if_false, if_true, reduceIte, mIfE, aNil, aCons, mTup, mLst, mLstC, mSl, slM, pNo, pAt, mB, mCall, lenM, listM, listMC, tupleM, intM, boolM, ixM, ixV, seqOf, lstOf, Mini.cellOf, mPar, mPar3, mLc, mLcC, mFor, iSeq, Mini.iRng1, Mini.iRng2, Mini.iEnum, Mini.iZip, mIsi, isiM, tyM, mMt, mMt0, appendM, extendM, popM, catF, catF.lstM, mChain, tAll, wipeM, mdK, Prod.mk.injEq, and_assoc, List.map_cons, List.map_nil, List.length_cons, List.length_nil, List.replicate, List.cons_append, List.nil_append, List.getElem?_cons_zero, List.getElem?_cons_succ, List.set_cons_zero, List.set_cons_succ, Option.some.injEq, exists_eq_left', exists_eq_left, true_and, and_true, List.cons.injEq, MV.int.injEq, MV.bl.injEq, MV.tup.injEq, MV.fl.injEq, MV.str.injEq, MV.ref.injEq, Option.bind_some, exists_and_left, exists_const, Nat.sub_self, Nat.reduceSub, Nat.reduceAdd, List.append_nil, List.nil_append, List.length_map, Nat.add_zero, Nat.zero_add]
                      refine set_run rfl (by omega) ?_
                      refine eq_wv (bl_end hh ?_)
                      simp only [m2, Bool.true_and] at k
                      have e3 : @decide (ascB (es.map wv)) (Classical.propDecidable _) = decide (asc es = es) := by
                        by_cases q : es = asc es
                        · rw [show decide (asc es = es) = true from decide_eq_true q.symm]
                          exact @decide_eq_true _ (Classical.propDecidable _) (ascB_iff.mpr q)
                        · rw [show decide (asc es = es) = false from decide_eq_false fun z => q z.symm]
                          exact @decide_eq_false _ (Classical.propDecidable _) fun z => q (ascB_iff.mp z)
                      rwa [e3] at k
                    · refine bl_end hh ?_
                      simpa only [m2, Bool.false_and] using k
                  · have e2 : decide ((12 : Int) < (ws.length : Int)) = true := decide_eq_true (by omega)
                    simp only [e2, getK, setK, Option.isSome_some, eqM_int, neM_int, kit_ii, kit_bi, kit_ni, kit_si, kit_ti, kit_li, kit_ib, kit_bb, kit_tt, kit_it, kit_bt, kit_nt, kit_st, kit_lt, atI0, atI1, atI2, ixN30, ixN31, ixN32, mFn, startM, mSeq, mIf, mAsg, mRet, mRetN, mDrop, mNext, gN, gT, gsCons, gsNil, gIx, mVar, mInt, mBl, mNon, mStr, mC, mOp1, mOp2, int2, plusM, addM, mulM2, negM, isM, isNotM, isNoneM, tV, tNo, tAn, Mini.tOr, mAnd, mOr, mNot, Mini.notM, Bool.not_false, Bool.not_true, Bool.false_eq_true, if_false, if_true, reduceIte, mIfE, aNil, aCons, mTup, mLst, mLstC, mSl, slM, pNo, pAt, mB, mCall, lenM, listM, listMC, tupleM, intM, boolM, ixM, ixV, seqOf, lstOf, Mini.cellOf, mPar, mPar3, mLc, mLcC, mFor, iSeq, Mini.iRng1, Mini.iRng2, Mini.iEnum, Mini.iZip, mIsi, isiM, tyM, mMt, mMt0, appendM, extendM, popM, catF, catF.lstM, mChain, tAll, wipeM, mdK, Prod.mk.injEq, and_assoc, List.map_cons, List.map_nil, List.length_cons, List.length_nil, List.replicate, List.cons_append, List.nil_append, List.getElem?_cons_zero, List.getElem?_cons_succ, List.set_cons_zero, List.set_cons_succ, Option.some.injEq, exists_eq_left', exists_eq_left, true_and, and_true, List.cons.injEq, MV.int.injEq, MV.bl.injEq, MV.tup.injEq, MV.fl.injEq, MV.str.injEq, MV.ref.injEq, Option.bind_some, exists_and_left, exists_const, Nat.sub_self, Nat.reduceSub, Nat.reduceAdd, List.append_nil, List.nil_append, List.length_map, Nat.add_zero, Nat.zero_add]
                    refine bl_end hh ?_
                    simpa only [h12, decide_false, Bool.false_and, Bool.and_false] using k
                all_goals
                  rw [planB_nt (fun ws e => by cases e)] at k
                  simp only [getK, setK, Option.isSome_some, eqM_int, neM_int, kit_ii, kit_bi, kit_ni, kit_si, kit_ti, kit_li, kit_ib, kit_bb, kit_tt, kit_it, kit_bt, kit_nt, kit_st, kit_lt, atI0, atI1, atI2, ixN30, ixN31, ixN32, mFn, startM, mSeq, mIf, mAsg, mRet, mRetN, mDrop, mNext, gN, gT, gsCons, gsNil, gIx, mVar, mInt, mBl, mNon, mStr, mC, mOp1, mOp2, int2, plusM, addM, mulM2, negM, isM, isNotM, isNoneM, tV, tNo, tAn, Mini.tOr, mAnd, mOr, mNot, Mini.notM, Bool.not_false, Bool.not_true, Bool.false_eq_true, if_false, if_true, reduceIte, mIfE, aNil, aCons, mTup, mLst, mLstC, mSl, slM, pNo, pAt, mB, mCall, lenM, listM, listMC, tupleM, intM, boolM, ixM, ixV, seqOf, lstOf, Mini.cellOf, mPar, mPar3, mLc, mLcC, mFor, iSeq, Mini.iRng1, Mini.iRng2, Mini.iEnum, Mini.iZip, mIsi, isiM, tyM, mMt, mMt0, appendM, extendM, popM, catF, catF.lstM, mChain, tAll, wipeM, mdK, Prod.mk.injEq, and_assoc, List.map_cons, List.map_nil, List.length_cons, List.length_nil, List.replicate, List.cons_append, List.nil_append, List.getElem?_cons_zero, List.getElem?_cons_succ, List.set_cons_zero, List.set_cons_succ, Option.some.injEq, exists_eq_left', exists_eq_left, true_and, and_true, List.cons.injEq, MV.int.injEq, MV.bl.injEq, MV.tup.injEq, MV.fl.injEq, MV.str.injEq, MV.ref.injEq, Option.bind_some, exists_and_left, exists_const, Nat.sub_self, Nat.reduceSub, Nat.reduceAdd, List.append_nil, List.nil_append, List.length_map, Nat.add_zero, Nat.zero_add]
                  exact bl_end hh k
          · have e2 : decide ((xs.length : Int) ≤ 4) = false := decide_eq_false (by omega)
            simp only [e2, getK, setK, Option.isSome_some, eqM_int, neM_int, kit_ii, kit_bi, kit_ni, kit_si, kit_ti, kit_li, kit_ib, kit_bb, kit_tt, kit_it, kit_bt, kit_nt, kit_st, kit_lt, atI0, atI1, atI2, ixN30, ixN31, ixN32, mFn, startM, mSeq, mIf, mAsg, mRet, mRetN, mDrop, mNext, gN, gT, gsCons, gsNil, gIx, mVar, mInt, mBl, mNon, mStr, mC, mOp1, mOp2, int2, plusM, addM, mulM2, negM, isM, isNotM, isNoneM, tV, tNo, tAn, Mini.tOr, mAnd, mOr, mNot, Mini.notM, Bool.not_false, Bool.not_true, Bool.false_eq_true, if_false, if_true, reduceIte, mIfE, aNil, aCons, mTup, mLst, mLstC, mSl, slM, pNo, pAt, mB, mCall, lenM, listM, listMC, tupleM, intM, boolM, ixM, ixV, seqOf, lstOf, Mini.cellOf, mPar, mPar3, mLc, mLcC, mFor, iSeq, Mini.iRng1, Mini.iRng2, Mini.iEnum, Mini.iZip, mIsi, isiM, tyM, mMt, mMt0, appendM, extendM, popM, catF, catF.lstM, mChain, tAll, wipeM, mdK, Prod.mk.injEq, and_assoc, List.map_cons, List.map_nil, List.length_cons, List.length_nil, List.replicate, List.cons_append, List.nil_append, List.getElem?_cons_zero, List.getElem?_cons_succ, List.set_cons_zero, List.set_cons_succ, Option.some.injEq, exists_eq_left', exists_eq_left, true_and, and_true, List.cons.injEq, MV.int.injEq, MV.bl.injEq, MV.tup.injEq, MV.fl.injEq, MV.str.injEq, MV.ref.injEq, Option.bind_some, exists_and_left, exists_const, Nat.sub_self, Nat.reduceSub, Nat.reduceAdd, List.append_nil, List.nil_append, List.length_map, Nat.add_zero, Nat.zero_add]
            refine bl_end hh ?_
            rwa [planB_ns (by simp only [sizesB, h2, decide_false, Bool.and_false, Bool.false_and])] at k
        · have e1 : decide ((1 : Int) ≤ (xs.length : Int)) = false := decide_eq_false (by omega)
          simp only [e1, getK, setK, Option.isSome_some, eqM_int, neM_int, kit_ii, kit_bi, kit_ni, kit_si, kit_ti, kit_li, kit_ib, kit_bb, kit_tt, kit_it, kit_bt, kit_nt, kit_st, kit_lt, atI0, atI1, atI2, ixN30, ixN31, ixN32, mFn, startM, mSeq, mIf, mAsg, mRet, mRetN, mDrop, mNext, gN, gT, gsCons, gsNil, gIx, mVar, mInt, mBl, mNon, mStr, mC, mOp1, mOp2, int2, plusM, addM, mulM2, negM, isM, isNotM, isNoneM, tV, tNo, tAn, Mini.tOr, mAnd, mOr, mNot, Mini.notM, Bool.not_false, Bool.not_true, Bool.false_eq_true, if_false, if_true, reduceIte, mIfE, aNil, aCons, mTup, mLst, mLstC, mSl, slM, pNo, pAt, mB, mCall, lenM, listM, listMC, tupleM, intM, boolM, ixM, ixV, seqOf, lstOf, Mini.cellOf, mPar, mPar3, mLc, mLcC, mFor, iSeq, Mini.iRng1, Mini.iRng2, Mini.iEnum, Mini.iZip, mIsi, isiM, tyM, mMt, mMt0, appendM, extendM, popM, catF, catF.lstM, mChain, tAll, wipeM, mdK, Prod.mk.injEq, and_assoc, List.map_cons, List.map_nil, List.length_cons, List.length_nil, List.replicate, List.cons_append, List.nil_append, List.getElem?_cons_zero, List.getElem?_cons_succ, List.set_cons_zero, List.set_cons_succ, Option.some.injEq, exists_eq_left', exists_eq_left, true_and, and_true, List.cons.injEq, MV.int.injEq, MV.bl.injEq, MV.tup.injEq, MV.fl.injEq, MV.str.injEq, MV.ref.injEq, Option.bind_some, exists_and_left, exists_const, Nat.sub_self, Nat.reduceSub, Nat.reduceAdd, List.append_nil, List.nil_append, List.length_map, Nat.add_zero, Nat.zero_add]
          refine bl_end hh ?_
          rwa [planB_ns (by simp only [sizesB, h1, decide_false, Bool.false_and])] at k
      all_goals
        rw [planB_ns rfl] at k
        simp only [getK, setK, Option.isSome_some, eqM_int, neM_int, kit_ii, kit_bi, kit_ni, kit_si, kit_ti, kit_li, kit_ib, kit_bb, kit_tt, kit_it, kit_bt, kit_nt, kit_st, kit_lt, atI0, atI1, atI2, ixN30, ixN31, ixN32, mFn, startM, mSeq, mIf, mAsg, mRet, mRetN, mDrop, mNext, gN, gT, gsCons, gsNil, gIx, mVar, mInt, mBl, mNon, mStr, mC, mOp1, mOp2, int2, plusM, addM, mulM2, negM, isM, isNotM, isNoneM, tV, tNo, tAn, Mini.tOr, mAnd, mOr, mNot, Mini.notM, Bool.not_false, Bool.not_true, Bool.false_eq_true, if_false, if_true, reduceIte, mIfE, aNil, aCons, mTup, mLst, mLstC, mSl, slM, pNo, pAt, mB, mCall, lenM, listM, listMC, tupleM, intM, boolM, ixM, ixV, seqOf, lstOf, Mini.cellOf, mPar, mPar3, mLc, mLcC, mFor, iSeq, Mini.iRng1, Mini.iRng2, Mini.iEnum, Mini.iZip, mIsi, isiM, tyM, mMt, mMt0, appendM, extendM, popM, catF, catF.lstM, mChain, tAll, wipeM, mdK, Prod.mk.injEq, and_assoc, List.map_cons, List.map_nil, List.length_cons, List.length_nil, List.replicate, List.cons_append, List.nil_append, List.getElem?_cons_zero, List.getElem?_cons_succ, List.set_cons_zero, List.set_cons_succ, Option.some.injEq, exists_eq_left', exists_eq_left, true_and, and_true, List.cons.injEq, MV.int.injEq, MV.bl.injEq, MV.tup.injEq, MV.fl.injEq, MV.str.injEq, MV.ref.injEq, Option.bind_some, exists_and_left, exists_const, Nat.sub_self, Nat.reduceSub, Nat.reduceAdd, List.append_nil, List.nil_append, List.length_map, Nat.add_zero, Nat.zero_add]
        exact bl_end hh k
    · have e : ((xs.length : Int) == 2) = false := by simp; omega
      simp only [e, getK, setK, Option.isSome_some, eqM_int, neM_int, kit_ii, kit_bi, kit_ni, kit_si, kit_ti, kit_li, kit_ib, kit_bb, kit_tt, kit_it, kit_bt, kit_nt, kit_st, kit_lt, atI0, atI1, atI2, ixN30, ixN31, ixN32, mFn, startM, mSeq, mIf, mAsg, mRet, mRetN, mDrop, mNext, gN, gT, gsCons, gsNil, gIx, mVar, mInt, mBl, mNon, mStr, mC, mOp1, mOp2, int2, plusM, addM, mulM2, negM, isM, isNotM, isNoneM, tV, tNo, tAn, Mini.tOr, mAnd, mOr, mNot, Mini.notM, Bool.not_false, Bool.not_true, Bool.false_eq_true, if_false, if_true, reduceIte, mIfE, aNil, aCons, mTup, mLst, mLstC, mSl, slM, pNo, pAt, mB, mCall, lenM, listM, listMC, tupleM, intM, boolM, ixM, ixV, seqOf, lstOf, Mini.cellOf, mPar, mPar3, mLc, mLcC, mFor, iSeq, Mini.iRng1, Mini.iRng2, Mini.iEnum, Mini.iZip, mIsi, isiM, tyM, mMt, mMt0, appendM, extendM, popM, catF, catF.lstM, mChain, tAll, wipeM, mdK, Prod.mk.injEq, and_assoc, List.map_cons, List.map_nil, List.length_cons, List.length_nil, List.replicate, List.cons_append, List.nil_append, List.getElem?_cons_zero, List.getElem?_cons_succ, List.set_cons_zero, List.set_cons_succ, Option.some.injEq, exists_eq_left', exists_eq_left, true_and, and_true, List.cons.injEq, MV.int.injEq, MV.bl.injEq, MV.tup.injEq, MV.fl.injEq, MV.str.injEq, MV.ref.injEq, Option.bind_some, exists_and_left, exists_const, Nat.sub_self, Nat.reduceSub, Nat.reduceAdd, List.append_nil, List.nil_append, List.length_map, Nat.add_zero, Nat.zero_add]
      refine bl_end hh ?_
      rwa [planB_len hl] at k
  all_goals
    simp only [getK, setK, Option.isSome_some, eqM_int, neM_int, kit_ii, kit_bi, kit_ni, kit_si, kit_ti, kit_li, kit_ib, kit_bb, kit_tt, kit_it, kit_bt, kit_nt, kit_st, kit_lt, atI0, atI1, atI2, ixN30, ixN31, ixN32, mFn, startM, mSeq, mIf, mAsg, mRet, mRetN, mDrop, mNext, gN, gT, gsCons, gsNil, gIx, mVar, mInt, mBl, mNon, mStr, mC, mOp1, mOp2, int2, plusM, addM, mulM2, negM, isM, isNotM, isNoneM, tV, tNo, tAn, Mini.tOr, mAnd, mOr, mNot, Mini.notM, Bool.not_false, Bool.not_true, Bool.false_eq_true, if_false, if_true, reduceIte, mIfE, aNil, aCons, mTup, mLst, mLstC, mSl, slM, pNo, pAt, mB, mCall, lenM, listM, listMC, tupleM, intM, boolM, ixM, ixV, seqOf, lstOf, Mini.cellOf, mPar, mPar3, mLc, mLcC, mFor, iSeq, Mini.iRng1, Mini.iRng2, Mini.iEnum, Mini.iZip, mIsi, isiM, tyM, mMt, mMt0, appendM, extendM, popM, catF, catF.lstM, mChain, tAll, wipeM, mdK, Prod.mk.injEq, and_assoc, List.map_cons, List.map_nil, List.length_cons, List.length_nil, List.replicate, List.cons_append, List.nil_append, List.getElem?_cons_zero, List.getElem?_cons_succ, List.set_cons_zero, List.set_cons_succ, Option.some.injEq, exists_eq_left', exists_eq_left, true_and, and_true, List.cons.injEq, MV.int.injEq, MV.bl.injEq, MV.tup.injEq, MV.fl.injEq, MV.str.injEq, MV.ref.injEq, Option.bind_some, exists_and_left, exists_const, Nat.sub_self, Nat.reduceSub, Nat.reduceAdd, List.append_nil, List.nil_append, List.length_map, Nat.add_zero, Nat.zero_add]
    exact bl_end hh k
theorem is_endless_ok {v : MV} {h : MHp} (hh : Hh h) (hv : v.sok = true) {Q E : MQ} (k : Q (.bl (planB v)) h) : f_is_endless [v] h Q E := by
  simp only [f_is_endless, b_is_endless, getK, setK, Option.isSome_some, eqM_int, neM_int, kit_ii, kit_bi, kit_ni, kit_si, kit_ti, kit_li, kit_ib, kit_bb, kit_tt, kit_it, kit_bt, kit_nt, kit_st, kit_lt, atI0, atI1, atI2, ixN30, ixN31, ixN32, mFn, startM, mSeq, mIf, mAsg, mRet, mRetN, mDrop, mNext, gN, gT, gsCons, gsNil, gIx, mVar, mInt, mBl, mNon, mStr, mC, mOp1, mOp2, int2, plusM, addM, mulM2, negM, isM, isNotM, isNoneM, tV, tNo, tAn, Mini.tOr, mAnd, mOr, mNot, Mini.notM, Bool.not_false, Bool.not_true, Bool.false_eq_true, if_false, if_true, reduceIte, mIfE, aNil, aCons, mTup, mLst, mLstC, mSl, slM, pNo, pAt, mB, mCall, lenM, listM, listMC, tupleM, intM, boolM, ixM, ixV, seqOf, lstOf, Mini.cellOf, mPar, mPar3, mLc, mLcC, mFor, iSeq, Mini.iRng1, Mini.iRng2, Mini.iEnum, Mini.iZip, mIsi, isiM, tyM, mMt, mMt0, appendM, extendM, popM, catF, catF.lstM, mChain, tAll, wipeM, mdK, Prod.mk.injEq, and_assoc, List.map_cons, List.map_nil, List.length_cons, List.length_nil, List.replicate, List.cons_append, List.nil_append, List.getElem?_cons_zero, List.getElem?_cons_succ, List.set_cons_zero, List.set_cons_succ, Option.some.injEq, exists_eq_left', exists_eq_left, true_and, and_true, List.cons.injEq, MV.int.injEq, MV.bl.injEq, MV.tup.injEq, MV.fl.injEq, MV.str.injEq, MV.ref.injEq, Option.bind_some, exists_and_left, exists_const, Nat.sub_self, Nat.reduceSub, Nat.reduceAdd, List.append_nil, List.nil_append, List.length_map, Nat.add_zero, Nat.zero_add]
  exact endless_plan_ok hh hv (bl_end hh k)
theorem require_ok {v : MV} {h : MHp} (hh : Hh h) (hv : v.sok = true) (hp : planB v = true) {Q E : MQ} (k : Q .non h) : f_require_endless [v] h Q E := by
  simp only [f_require_endless, b_require_endless, getK, setK, Option.isSome_some, eqM_int, neM_int, kit_ii, kit_bi, kit_ni, kit_si, kit_ti, kit_li, kit_ib, kit_bb, kit_tt, kit_it, kit_bt, kit_nt, kit_st, kit_lt, atI0, atI1, atI2, ixN30, ixN31, ixN32, mFn, startM, mSeq, mIf, mAsg, mRet, mRetN, mDrop, mNext, gN, gT, gsCons, gsNil, gIx, mVar, mInt, mBl, mNon, mStr, mC, mOp1, mOp2, int2, plusM, addM, mulM2, negM, isM, isNotM, isNoneM, tV, tNo, tAn, Mini.tOr, mAnd, mOr, mNot, Mini.notM, Bool.not_false, Bool.not_true, Bool.false_eq_true, if_false, if_true, reduceIte, mIfE, aNil, aCons, mTup, mLst, mLstC, mSl, slM, pNo, pAt, mB, mCall, lenM, listM, listMC, tupleM, intM, boolM, ixM, ixV, seqOf, lstOf, Mini.cellOf, mPar, mPar3, mLc, mLcC, mFor, iSeq, Mini.iRng1, Mini.iRng2, Mini.iEnum, Mini.iZip, mIsi, isiM, tyM, mMt, mMt0, appendM, extendM, popM, catF, catF.lstM, mChain, tAll, wipeM, mdK, Prod.mk.injEq, and_assoc, List.map_cons, List.map_nil, List.length_cons, List.length_nil, List.replicate, List.cons_append, List.nil_append, List.getElem?_cons_zero, List.getElem?_cons_succ, List.set_cons_zero, List.set_cons_succ, Option.some.injEq, exists_eq_left', exists_eq_left, true_and, and_true, List.cons.injEq, MV.int.injEq, MV.bl.injEq, MV.tup.injEq, MV.fl.injEq, MV.str.injEq, MV.ref.injEq, Option.bind_some, exists_and_left, exists_const, Nat.sub_self, Nat.reduceSub, Nat.reduceAdd, List.append_nil, List.nil_append, List.length_map, Nat.add_zero, Nat.zero_add]
  refine endless_plan_ok hh hv ⟨_, rfl, ?_⟩
  rw [hp]
  simp only [getK, setK, Option.isSome_some, eqM_int, neM_int, kit_ii, kit_bi, kit_ni, kit_si, kit_ti, kit_li, kit_ib, kit_bb, kit_tt, kit_it, kit_bt, kit_nt, kit_st, kit_lt, atI0, atI1, atI2, ixN30, ixN31, ixN32, mFn, startM, mSeq, mIf, mAsg, mRet, mRetN, mDrop, mNext, gN, gT, gsCons, gsNil, gIx, mVar, mInt, mBl, mNon, mStr, mC, mOp1, mOp2, int2, plusM, addM, mulM2, negM, isM, isNotM, isNoneM, tV, tNo, tAn, Mini.tOr, mAnd, mOr, mNot, Mini.notM, Bool.not_false, Bool.not_true, Bool.false_eq_true, if_false, if_true, reduceIte, mIfE, aNil, aCons, mTup, mLst, mLstC, mSl, slM, pNo, pAt, mB, mCall, lenM, listM, listMC, tupleM, intM, boolM, ixM, ixV, seqOf, lstOf, Mini.cellOf, mPar, mPar3, mLc, mLcC, mFor, iSeq, Mini.iRng1, Mini.iRng2, Mini.iEnum, Mini.iZip, mIsi, isiM, tyM, mMt, mMt0, appendM, extendM, popM, catF, catF.lstM, mChain, tAll, wipeM, mdK, Prod.mk.injEq, and_assoc, List.map_cons, List.map_nil, List.length_cons, List.length_nil, List.replicate, List.cons_append, List.nil_append, List.getElem?_cons_zero, List.getElem?_cons_succ, List.set_cons_zero, List.set_cons_succ, Option.some.injEq, exists_eq_left', exists_eq_left, true_and, and_true, List.cons.injEq, MV.int.injEq, MV.bl.injEq, MV.tup.injEq, MV.fl.injEq, MV.str.injEq, MV.ref.injEq, Option.bind_some, exists_and_left, exists_const, Nat.sub_self, Nat.reduceSub, Nat.reduceAdd, List.append_nil, List.nil_append, List.length_map, Nat.add_zero, Nat.zero_add]
  exact mdF_same rfl hh rfl k

end Lw
namespace Lw
open PySem PySem.Spec PyProof.Rows L2 Mini PySem.W
/-! ### the ties -/
def tb : MS := (mSeq (mDrop (mMt extendM (mVar 1) (aCons (mLc (iRng1 (aCons (mOp2 subM (mVar 3) (mInt 1)) aNil)) (gN 4) tAll (mTup (aCons (mTup (aCons (mVar 2) (aCons (mVar 4) aNil))) (aCons (mTup (aCons (mVar 2) (aCons (mOp2 plusM (mVar 4) (mInt 1)) aNil))) (aCons (mInt 0) aNil)))) [4]) aNil)))
    (mDrop (mMt appendM (mVar 1) (aCons (mTup (aCons (mTup (aCons (mVar 2) (aCons (mOp2 subM (mVar 3) (mInt 1)) aNil))) (aCons (mTup (aCons (mVar 2) (aCons (mInt 0) aNil))) (aCons (mInt 1) aNil)))) aNil))))
theorem ties_body : b__law_all_ties =
    (mSeq (mAsg (mB listMC (aCons (mOp2 ixM (mVar 0) (mInt 1)) aNil)) (gN 1))
    (mSeq (mFor (iEnum (aCons (mOp2 ixM (mVar 0) (mInt 0)) aNil)) (gT (gsCons (gN 2) (gsCons (gN 3) gsNil)) 2) tb)
    (mRet (mB sortM (aCons (mVar 1) aNil))))) := rfl
theorem links_body : b_find_links =
    (mSeq (mAsg (mB listMC (aCons (mOp2 ixM (mVar 0) (mInt 1)) aNil)) (gN 1))
    (mSeq (mFor (iEnum (aCons (mOp2 ixM (mVar 0) (mInt 0)) aNil)) (gT (gsCons (gN 2) (gsCons (gN 3) gsNil)) 2) tb)
    (mRet (mB sortMC (aCons (mVar 1) aNil))))) := rfl
def row (q : Nat) (s : Int) : List T5 := (List.range (s - 1).toNat).map (fun i : Nat => ((q : Int), (i : Int), (q : Int), (i : Int) + 1, 0)) ++ [((q : Int), s - 1, (q : Int), 0, 1)]
def rows : Nat → List Int → List T5
  | _, [] => []
  | q, s :: ss => row q s ++ rows (q + 1) ss
def enumK (k : Nat) (xs : List MV) : List MV := (xs.zipIdx k).map fun p => .tup [.int (p.2 : Nat), p.1]
theorem row_len {q : Nat} {s : Int} (h : s ≤ 4) : (row q s).length ≤ 4 := by
  unfold row
  rw [List.length_append, List.length_map, List.length_range, List.length_singleton]
  omega
theorem rng_row {q : Nat} {s : Int} : (rng 0 (s - 1)).filterMap (fun x => some (wv ((q : Int), toI x, (q : Int), toI x + 1, 0))) = ((List.range (s - 1).toNat).map (fun i : Nat => ((q : Int), (i : Int), (q : Int), (i : Int) + 1, (0 : Int)))).map wv := by
  unfold rng
  rw [List.filterMap_map, List.map_map, ← List.filterMap_eq_map]
  simp only [Int.sub_zero]
  refine fm_congr fun i _ => ?_
  show some (wv ((q : Int), (0 + (i : Int)), (q : Int), (0 + (i : Int)) + 1, 0)) = some (wv ((q : Int), (i : Int), (q : Int), (i : Int) + 1, 0))
  rw [Int.zero_add]
theorem ties_loop {h : MHp} {D : MD} {p z : Option MV} : ∀ (ss : List Int) (k : Nat) (fs : List T5) (x y : Option MV), fs.length + 10 * ss.length ≤ 1000 → (∀ s ∈ ss, 1 ≤ s ∧ s ≤ 4) →
    (∀ x y, D.nx [p, some (.ref h.length), x, y, z] (h ++ [.lst ((fs ++ rows k ss).map wv)])) →
    forM (fun _ => True) (gT (gsCons (gN 2) (gsCons (gN 3) gsNil)) 2) tb (enumK k (ss.map .int)) [p, some (.ref h.length), x, y, z] (h ++ [.lst (fs.map wv)]) D
  | [], k, fs, x, y, _, _, hn => by
    have := hn x y
    rw [rows, List.append_nil] at this
    exact ⟨trivial, this⟩
  | s :: ss, k, fs, x, y, hl, hs, hn => by
    have ih := ties_loop (h := h) (D := D) (p := p) (z := z) ss (k + 1) (fs ++ row k s)
    have hs1 := hs s List.mem_cons_self
    have hr := row_len (q := k) hs1.2
    rw [List.length_cons] at hl
    have good : ∀ x y, forM (fun _ => True) (gT (gsCons (gN 2) (gsCons (gN 3) gsNil)) 2) tb (enumK (k + 1) (ss.map .int)) [p, some (.ref h.length), x, y, z] (h ++ [.lst ((fs ++ row k s).map wv)]) D := fun x y => by
      refine ih x y (by rw [List.length_append]; omega) (fun t ht => hs t (List.mem_cons_of_mem _ ht)) fun x y => ?_
      have := hn x y
      rw [rows, ← List.append_assoc] at this
      exact this
    clear ih hn
    have e : enumK k ((s :: ss).map .int) = .tup [.int (k : Nat), .int s] :: enumK (k + 1) (ss.map .int) := by
      unfold enumK
      rw [List.map_cons, List.zipIdx_cons, List.map_cons]
    rw [e]
    refine ⟨trivial, ?_⟩
    have gk : ∀ K : MSt → MHp → Prop, (∀ x y, K [p, some (.ref h.length), x, y, z] (h ++ [.lst ((fs ++ row k s).map wv)])) → gT (gsCons (gN 2) (gsCons (gN 3) gsNil)) 2 (.tup [.int (k : Nat), .int s]) [p, some (.ref h.length), x, y, z] (h ++ [.lst (fs.map wv)]) (fun s1 h1 => tb s1 h1 { D with nx := K, ct := K, bk := D.nx }) (fun e h' => D.ex e [p, some (.ref h.length), x, y, z] h') := by
      clear good
      intro K good
      simp only [tb, getK, setK, Option.isSome_some, eqM_int, neM_int, kit_ii, kit_bi, kit_ni, kit_si, kit_ti, kit_li, kit_ib, kit_bb, kit_tt, kit_it, kit_bt, kit_nt, kit_st, kit_lt, atI0, atI1, atI2, ixN30, ixN31, ixN32, mFn, startM, mSeq, mIf, mAsg, mRet, mRetN, mDrop, mNext, gN, gT, gsCons, gsNil, gIx, mVar, mInt, mBl, mNon, mStr, mC, mOp1, mOp2, int2, plusM, addM, mulM2, negM, isM, isNotM, isNoneM, tV, tNo, tAn, Mini.tOr, mAnd, mOr, mNot, Mini.notM, Bool.not_false, Bool.not_true, Bool.false_eq_true, if_false, if_true, reduceIte, mIfE, aNil, aCons, mTup, mLst, mLstC, mSl, slM, pNo, pAt, mB, mCall, lenM, listM, listMC, tupleM, intM, boolM, ixM, ixV, seqOf, lstOf, Mini.cellOf, mPar, mPar3, mLc, mLcC, mFor, iSeq, Mini.iRng1, Mini.iRng2, Mini.iEnum, Mini.iZip, mIsi, isiM, tyM, mMt, mMt0, appendM, extendM, popM, catF, catF.lstM, mChain, tAll, wipeM, mdK, Prod.mk.injEq, and_assoc, List.map_cons, List.map_nil, List.length_cons, List.length_nil, List.replicate, List.cons_append, List.nil_append, List.getElem?_cons_zero, List.getElem?_cons_succ, List.set_cons_zero, List.set_cons_succ, Option.some.injEq, exists_eq_left', exists_eq_left, true_and, and_true, List.cons.injEq, MV.int.injEq, MV.bl.injEq, MV.tup.injEq, MV.fl.injEq, MV.str.injEq, MV.ref.injEq, Option.bind_some, exists_and_left, exists_const, Nat.sub_self, Nat.reduceSub, Nat.reduceAdd, List.append_nil, List.nil_append, List.length_map, Nat.add_zero, Nat.zero_add]
      refine ⟨by omega, by omega, ?_⟩
      refine comp_pure (f := fun x => some (wv ((k : Int), toI x, (k : Int), toI x + 1, 0))) trivial _ [] ?_ (fun x hx' acc K ha hk => ?_) ?_
      · unfold rng
        rw [sizeLine_eq, List.length_map, List.length_range, List.length_nil]
        omega
      · unfold rng at hx'
        obtain ⟨i, _, rfl⟩ := List.mem_map.mp hx'
        simp only [tAll, getK, setK, Option.isSome_some, eqM_int, neM_int, kit_ii, kit_bi, kit_ni, kit_si, kit_ti, kit_li, kit_ib, kit_bb, kit_tt, kit_it, kit_bt, kit_nt, kit_st, kit_lt, atI0, atI1, atI2, ixN30, ixN31, ixN32, mFn, startM, mSeq, mIf, mAsg, mRet, mRetN, mDrop, mNext, gN, gT, gsCons, gsNil, gIx, mVar, mInt, mBl, mNon, mStr, mC, mOp1, mOp2, int2, plusM, addM, mulM2, negM, isM, isNotM, isNoneM, tV, tNo, tAn, Mini.tOr, mAnd, mOr, mNot, Mini.notM, Bool.not_false, Bool.not_true, Bool.false_eq_true, if_false, if_true, reduceIte, mIfE, aNil, aCons, mTup, mLst, mLstC, mSl, slM, pNo, pAt, mB, mCall, lenM, listM, listMC, tupleM, intM, boolM, ixM, ixV, seqOf, lstOf, Mini.cellOf, mPar, mPar3, mLc, mLcC, mFor, iSeq, Mini.iRng1, Mini.iRng2, Mini.iEnum, Mini.iZip, mIsi, isiM, tyM, mMt, mMt0, appendM, extendM, popM, catF, catF.lstM, mChain, tAll, wipeM, mdK, Prod.mk.injEq, and_assoc, List.map_cons, List.map_nil, List.length_cons, List.length_nil, List.replicate, List.cons_append, List.nil_append, List.getElem?_cons_zero, List.getElem?_cons_succ, List.set_cons_zero, List.set_cons_succ, Option.some.injEq, exists_eq_left', exists_eq_left, true_and, and_true, List.cons.injEq, MV.int.injEq, MV.bl.injEq, MV.tup.injEq, MV.fl.injEq, MV.str.injEq, MV.ref.injEq, Option.bind_some, exists_and_left, exists_const, Nat.sub_self, Nat.reduceSub, Nat.reduceAdd, List.append_nil, List.nil_append, List.length_map, Nat.add_zero, Nat.zero_add]
        exact ⟨smallLine (by decide), smallLine (by decide), smallLine (by decide), ha, hk⟩
      · rw [List.nil_append, rng_row]
        refine ⟨h.length, fs.map wv, by rw [getK], _, .inl rfl, ?_, ?_⟩
        · rw [sizeLine_eq]
          simp only [List.length_map, List.length_range]
          omega
        · rw [setK, getK]
          refine ⟨rfl, smallLine (by decide), smallLine (by decide), smallLine (by decide), h.length, _, rfl, ?_, ?_⟩
          · rw [sizeLine_eq]
            simp only [List.length_append, List.length_map, List.length_range]
            omega
          · rw [setK]
            have := good (some (.int k)) (some (.int s))
            unfold row at this
            rw [← List.append_assoc, List.map_append, List.map_append] at this
            exact this
    exact gk _ good

theorem mdC_new {n : Nat} {Q : MQ} {i : Nat} {xs : List MV} {h u : MHp} (hl : h.length = n) (ho : oldOk n h = true) (hi : n ≤ i) (hc : (h ++ u)[i]? = some (.lst xs)) (hv : sokAll xs = true) (q : Q (.ref n) (h ++ [.lst xs])) : mdC n Q (.ref i) (h ++ u) := by
  have e : (h ++ u).take n = h := by rw [← hl, List.take_left']; rfl
  refine ⟨i, xs, rfl, hi, hc, ?_, loAll_sok n xs hv, by rw [e]; exact q⟩
  unfold oldOk at ho ⊢
  rw [e]
  rw [List.take_of_length_le (by omega)] at ho
  exact ho
abbrev plan (ss : List Int) (es : List T5) : MV := .tup [.tup (ss.map .int), .tup (es.map wv)]
def tiesOf (ss : List Int) (es : List T5) : List T5 := srt (es ++ rows 0 ss)
theorem rows_len : ∀ (ss : List Int) (k : Nat), (∀ s ∈ ss, 1 ≤ s ∧ s ≤ 4) → (rows k ss).length ≤ 4 * ss.length
  | [], _, _ => by simp [rows]
  | s :: ss, k, h => by
    have a := row_len (q := k) (h s List.mem_cons_self).2
    have b := rows_len ss (k + 1) fun t ht => h t (List.mem_cons_of_mem _ ht)
    rw [rows, List.length_append, List.length_cons]
    omega
theorem all_ties_ok {ss : List Int} {es : List T5} (hl : ss.length ≤ 4) (he : es.length ≤ 12) (hs : ∀ s ∈ ss, 1 ≤ s ∧ s ≤ 4) {h : MHp} (hh : Hh h) {Q E : MQ} (k : Q (.fl ((tiesOf ss es).map wv)) h) : f__law_all_ties [plan ss es] h Q E := by
  simp only [f__law_all_ties, ties_body, getK, setK, Option.isSome_some, eqM_int, neM_int, kit_ii, kit_bi, kit_ni, kit_si, kit_ti, kit_li, kit_ib, kit_bb, kit_tt, kit_it, kit_bt, kit_nt, kit_st, kit_lt, atI0, atI1, atI2, ixN30, ixN31, ixN32, mFn, startM, mSeq, mIf, mAsg, mRet, mRetN, mDrop, mNext, gN, gT, gsCons, gsNil, gIx, mVar, mInt, mBl, mNon, mStr, mC, mOp1, mOp2, int2, plusM, addM, mulM2, negM, isM, isNotM, isNoneM, tV, tNo, tAn, Mini.tOr, mAnd, mOr, mNot, Mini.notM, Bool.not_false, Bool.not_true, Bool.false_eq_true, if_false, if_true, reduceIte, mIfE, aNil, aCons, mTup, mLst, mLstC, mSl, slM, pNo, pAt, mB, mCall, lenM, listM, listMC, tupleM, intM, boolM, ixM, ixV, seqOf, lstOf, Mini.cellOf, mPar, mPar3, mLc, mLcC, mFor, iSeq, Mini.iRng1, Mini.iRng2, Mini.iEnum, Mini.iZip, mIsi, isiM, tyM, mMt, mMt0, appendM, extendM, popM, catF, catF.lstM, mChain, tAll, wipeM, mdK, Prod.mk.injEq, and_assoc, List.map_cons, List.map_nil, List.length_cons, List.length_nil, List.replicate, List.cons_append, List.nil_append, List.getElem?_cons_zero, List.getElem?_cons_succ, List.set_cons_zero, List.set_cons_succ, Option.some.injEq, exists_eq_left', exists_eq_left, true_and, and_true, List.cons.injEq, MV.int.injEq, MV.bl.injEq, MV.tup.injEq, MV.fl.injEq, MV.str.injEq, MV.ref.injEq, Option.bind_some, exists_and_left, exists_const, Nat.sub_self, Nat.reduceSub, Nat.reduceAdd, List.append_nil, List.nil_append, List.length_map, Nat.add_zero, Nat.zero_add]
  refine ties_loop ss 0 es none none (by omega) hs fun x y => ?_
  simp only [getK, setK, Option.isSome_some, eqM_int, neM_int, kit_ii, kit_bi, kit_ni, kit_si, kit_ti, kit_li, kit_ib, kit_bb, kit_tt, kit_it, kit_bt, kit_nt, kit_st, kit_lt, atI0, atI1, atI2, ixN30, ixN31, ixN32, mFn, startM, mSeq, mIf, mAsg, mRet, mRetN, mDrop, mNext, gN, gT, gsCons, gsNil, gIx, mVar, mInt, mBl, mNon, mStr, mC, mOp1, mOp2, int2, plusM, addM, mulM2, negM, isM, isNotM, isNoneM, tV, tNo, tAn, Mini.tOr, mAnd, mOr, mNot, Mini.notM, Bool.not_false, Bool.not_true, Bool.false_eq_true, if_false, if_true, reduceIte, mIfE, aNil, aCons, mTup, mLst, mLstC, mSl, slM, pNo, pAt, mB, mCall, lenM, listM, listMC, tupleM, intM, boolM, ixM, ixV, seqOf, lstOf, Mini.cellOf, mPar, mPar3, mLc, mLcC, mFor, iSeq, Mini.iRng1, Mini.iRng2, Mini.iEnum, Mini.iZip, mIsi, isiM, tyM, mMt, mMt0, appendM, extendM, popM, catF, catF.lstM, mChain, tAll, wipeM, mdK, Prod.mk.injEq, and_assoc, List.map_cons, List.map_nil, List.length_cons, List.length_nil, List.replicate, List.cons_append, List.nil_append, List.getElem?_cons_zero, List.getElem?_cons_succ, List.set_cons_zero, List.set_cons_succ, Option.some.injEq, exists_eq_left', exists_eq_left, true_and, and_true, List.cons.injEq, MV.int.injEq, MV.bl.injEq, MV.tup.injEq, MV.fl.injEq, MV.str.injEq, MV.ref.injEq, Option.bind_some, exists_and_left, exists_const, Nat.sub_self, Nat.reduceSub, Nat.reduceAdd, List.append_nil, List.nil_append, List.length_map, Nat.add_zero, Nat.zero_add]
  have hr := rows_len ss 0 hs
  refine ⟨.ref h.length, (es ++ rows 0 ss).map wv, rfl, by show (match (h ++ [Cell.lst ((es ++ rows 0 ss).map wv)])[h.length]? with | some (.lst xs) => some xs | _ => none) = _; rw [getK], wv_sort (by rw [List.length_append]; omega), ?_⟩
  rw [srt_W]
  exact mdF_sok rfl hh (by simp only [MV.sok]; exact wv_sok_all _) k
theorem find_links_ok {ss : List Int} {es : List T5} (hl : ss.length ≤ 4) (he : es.length ≤ 12) (hs : ∀ s ∈ ss, 1 ≤ s ∧ s ≤ 4) {h : MHp} (hh : Hh h) {Q E : MQ} (k : Q (.ref h.length) (h ++ [.lst ((tiesOf ss es).map wv)])) : f_find_links [plan ss es] h Q E := by
  simp only [f_find_links, links_body, getK, setK, Option.isSome_some, eqM_int, neM_int, kit_ii, kit_bi, kit_ni, kit_si, kit_ti, kit_li, kit_ib, kit_bb, kit_tt, kit_it, kit_bt, kit_nt, kit_st, kit_lt, atI0, atI1, atI2, ixN30, ixN31, ixN32, mFn, startM, mSeq, mIf, mAsg, mRet, mRetN, mDrop, mNext, gN, gT, gsCons, gsNil, gIx, mVar, mInt, mBl, mNon, mStr, mC, mOp1, mOp2, int2, plusM, addM, mulM2, negM, isM, isNotM, isNoneM, tV, tNo, tAn, Mini.tOr, mAnd, mOr, mNot, Mini.notM, Bool.not_false, Bool.not_true, Bool.false_eq_true, if_false, if_true, reduceIte, mIfE, aNil, aCons, mTup, mLst, mLstC, mSl, slM, pNo, pAt, mB, mCall, lenM, listM, listMC, tupleM, intM, boolM, ixM, ixV, seqOf, lstOf, Mini.cellOf, mPar, mPar3, mLc, mLcC, mFor, iSeq, Mini.iRng1, Mini.iRng2, Mini.iEnum, Mini.iZip, mIsi, isiM, tyM, mMt, mMt0, appendM, extendM, popM, catF, catF.lstM, mChain, tAll, wipeM, mdK, Prod.mk.injEq, and_assoc, List.map_cons, List.map_nil, List.length_cons, List.length_nil, List.replicate, List.cons_append, List.nil_append, List.getElem?_cons_zero, List.getElem?_cons_succ, List.set_cons_zero, List.set_cons_succ, Option.some.injEq, exists_eq_left', exists_eq_left, true_and, and_true, List.cons.injEq, MV.int.injEq, MV.bl.injEq, MV.tup.injEq, MV.fl.injEq, MV.str.injEq, MV.ref.injEq, Option.bind_some, exists_and_left, exists_const, Nat.sub_self, Nat.reduceSub, Nat.reduceAdd, List.append_nil, List.nil_append, List.length_map, Nat.add_zero, Nat.zero_add]
  refine ties_loop ss 0 es none none (by omega) hs fun x y => ?_
  simp only [getK, setK, Option.isSome_some, eqM_int, neM_int, kit_ii, kit_bi, kit_ni, kit_si, kit_ti, kit_li, kit_ib, kit_bb, kit_tt, kit_it, kit_bt, kit_nt, kit_st, kit_lt, atI0, atI1, atI2, ixN30, ixN31, ixN32, mFn, startM, mSeq, mIf, mAsg, mRet, mRetN, mDrop, mNext, gN, gT, gsCons, gsNil, gIx, mVar, mInt, mBl, mNon, mStr, mC, mOp1, mOp2, int2, plusM, addM, mulM2, negM, isM, isNotM, isNoneM, tV, tNo, tAn, Mini.tOr, mAnd, mOr, mNot, Mini.notM, Bool.not_false, Bool.not_true, Bool.false_eq_true, if_false, if_true, reduceIte, mIfE, aNil, aCons, mTup, mLst, mLstC, mSl, slM, pNo, pAt, mB, mCall, lenM, listM, listMC, tupleM, intM, boolM, ixM, ixV, seqOf, lstOf, Mini.cellOf, mPar, mPar3, mLc, mLcC, mFor, iSeq, Mini.iRng1, Mini.iRng2, Mini.iEnum, Mini.iZip, mIsi, isiM, tyM, mMt, mMt0, appendM, extendM, popM, catF, catF.lstM, mChain, tAll, wipeM, mdK, Prod.mk.injEq, and_assoc, List.map_cons, List.map_nil, List.length_cons, List.length_nil, List.replicate, List.cons_append, List.nil_append, List.getElem?_cons_zero, List.getElem?_cons_succ, List.set_cons_zero, List.set_cons_succ, Option.some.injEq, exists_eq_left', exists_eq_left, true_and, and_true, List.cons.injEq, MV.int.injEq, MV.bl.injEq, MV.tup.injEq, MV.fl.injEq, MV.str.injEq, MV.ref.injEq, Option.bind_some, exists_and_left, exists_const, Nat.sub_self, Nat.reduceSub, Nat.reduceAdd, List.append_nil, List.nil_append, List.length_map, Nat.add_zero, Nat.zero_add]
  have hr := rows_len ss 0 hs
  refine ⟨.ref h.length, (es ++ rows 0 ss).map wv, rfl, by show (match (h ++ [Cell.lst ((es ++ rows 0 ss).map wv)])[h.length]? with | some (.lst xs) => some xs | _ => none) = _; rw [getK], wv_sort (by rw [List.length_append]; omega), ?_⟩
  rw [srt_W, List.append_assoc]
  exact mdC_new rfl hh (by rw [List.length_append]; omega) (by rw [← List.append_assoc, getK] <;> rfl) (wv_sok_all _) k
theorem planB_shape {v : MV} (h : planB v = true) : ∃ ss es, v = plan ss es ∧ ss.length ≤ 4 ∧ es.length ≤ 12 ∧ ∀ s ∈ ss, 1 ≤ s ∧ s ≤ 4 := by
  have h' := h
  unfold planB at h
  split at h
  · rename_i xs ws
    simp only [Bool.and_eq_true] at h
    obtain ⟨ss, e, l1, l2, hs⟩ := sizes_ints h.1
    injection e with e
    subst e
    obtain ⟨es, rfl⟩ := waits_of h.2.2.1
    have := h.2.1
    rw [decide_eq_true_eq, List.length_map] at this
    exact ⟨ss, es, rfl, l1, this, hs⟩
  · simp at h
theorem links_of_ok {v : MV} {ss : List Int} {es : List T5} (hp : planB (plan ss es) = true) (hl : ss.length ≤ 4) (he : es.length ≤ 12) (hs : ∀ s ∈ ss, 1 ≤ s ∧ s ≤ 4) (hv : (plan ss es).sok = true) {h : MHp} (hh : Hh h) {Q E : MQ} (k : Q (.ref h.length) (h ++ [.lst ((tiesOf ss es).map wv)])) : f_links_of [plan ss es] h Q E := by
  simp only [f_links_of, b_links_of, getK, setK, Option.isSome_some, eqM_int, neM_int, kit_ii, kit_bi, kit_ni, kit_si, kit_ti, kit_li, kit_ib, kit_bb, kit_tt, kit_it, kit_bt, kit_nt, kit_st, kit_lt, atI0, atI1, atI2, ixN30, ixN31, ixN32, mFn, startM, mSeq, mIf, mAsg, mRet, mRetN, mDrop, mNext, gN, gT, gsCons, gsNil, gIx, mVar, mInt, mBl, mNon, mStr, mC, mOp1, mOp2, int2, plusM, addM, mulM2, negM, isM, isNotM, isNoneM, tV, tNo, tAn, Mini.tOr, mAnd, mOr, mNot, Mini.notM, Bool.not_false, Bool.not_true, Bool.false_eq_true, if_false, if_true, reduceIte, mIfE, aNil, aCons, mTup, mLst, mLstC, mSl, slM, pNo, pAt, mB, mCall, lenM, listM, listMC, tupleM, intM, boolM, ixM, ixV, seqOf, lstOf, Mini.cellOf, mPar, mPar3, mLc, mLcC, mFor, iSeq, Mini.iRng1, Mini.iRng2, Mini.iEnum, Mini.iZip, mIsi, isiM, tyM, mMt, mMt0, appendM, extendM, popM, catF, catF.lstM, mChain, tAll, wipeM, mdK, Prod.mk.injEq, and_assoc, List.map_cons, List.map_nil, List.length_cons, List.length_nil, List.replicate, List.cons_append, List.nil_append, List.getElem?_cons_zero, List.getElem?_cons_succ, List.set_cons_zero, List.set_cons_succ, Option.some.injEq, exists_eq_left', exists_eq_left, true_and, and_true, List.cons.injEq, MV.int.injEq, MV.bl.injEq, MV.tup.injEq, MV.fl.injEq, MV.str.injEq, MV.ref.injEq, Option.bind_some, exists_and_left, exists_const, Nat.sub_self, Nat.reduceSub, Nat.reduceAdd, List.append_nil, List.nil_append, List.length_map, Nat.add_zero, Nat.zero_add]
  refine require_ok hh hv hp ?_
  refine find_links_ok hl he hs hh ?_
  exact mdC_new rfl hh (Nat.le_refl _) getK (wv_sok_all _) k
end Lw
namespace Lw
open PySem PySem.Spec PyProof.Rows L2 Mini PySem.W
/-! ### one value is looked at -/
structure Gd (v : MV) : Prop where
  sok : v.sok = true
  shb : v.shb = true
  dep : v.dep ≤ 50
  sz : v.sz ≤ 16000000
theorem der_sok {v : MV} {h : MHp} (hv : v.sok = true) : der h v = v := by
  cases v <;> first | rfl | (simp [MV.sok] at hv)
theorem repr_ok {v : MV} {h : MHp} (hv : Gd v) {Q : MQ} (k : Q (.str v.dat.shown) h) : reprM2 [v] h Q :=
  ⟨v, rfl, by rw [der_sok hv.sok]; exact hv.sok, by rw [der_sok hv.sok]; exact rok_of hv.sok hv.shb hv.dep (by have := hv.sz; omega), by rw [der_sok hv.sok]; exact k⟩
theorem gd_bl (b : Bool) : Gd (.bl b) := ⟨rfl, rfl, by simp [MV.dep], by simp [MV.sz]⟩
theorem wv_sz (p : T5) : (wv p).sz = 9631 := by simp [wv, MV.sz, szAll]
theorem wv_szAll : ∀ es : List T5, szAll (es.map wv) ≤ 9633 * es.length
  | [] => by simp [szAll]
  | p :: es => by
    have := wv_szAll es
    simp only [List.map_cons, szAll, wv_sz, List.length_cons]
    omega
/-- its ints can be shown -/
def small (p : T5) : Prop := (wv p).shb = true
theorem shbAll_iff {xs : List MV} : shbAll xs = true ↔ ∀ x ∈ xs, x.shb = true := by
  induction xs with
  | nil => simp [shbAll]
  | cons x xs ih => simp [shbAll, ih]
theorem tiesOf_len {ss : List Int} {es : List T5} (hl : ss.length ≤ 4) (he : es.length ≤ 12) (hs : ∀ s ∈ ss, 1 ≤ s ∧ s ≤ 4) : (tiesOf ss es).length ≤ 28 := by
  have := rows_len ss 0 hs
  unfold tiesOf srt
  rw [List.length_mergeSort, List.length_append]
  omega
theorem log2_small {i : Int} (h0 : -1000 ≤ i) (h1 : i ≤ 1000) : i.natAbs.log2 < 1920 := by
  by_cases h : i.natAbs = 0
  · rw [h]; decide
  · refine (Nat.log2_lt h).mpr (Nat.lt_of_lt_of_le (show i.natAbs < 2 ^ 10 by omega) (Nat.pow_le_pow_right (by decide) (by decide)))
theorem small_of {a b c d e : Int} (ha : 0 ≤ a ∧ a ≤ 1000) (hb : 0 ≤ b ∧ b ≤ 1000) (hc : 0 ≤ c ∧ c ≤ 1000) (hd : 0 ≤ d ∧ d ≤ 1000) (he : 0 ≤ e ∧ e ≤ 1000) : small (a, b, c, d, e) := by
  unfold small
  simp only [wv, MV.shb, shbAll, Bool.and_true, Bool.and_eq_true, decide_eq_true_eq]
  exact ⟨⟨log2_small (by omega) ha.2, log2_small (by omega) hb.2⟩, ⟨log2_small (by omega) hc.2, log2_small (by omega) hd.2⟩, log2_small (by omega) he.2⟩
theorem rows_small : ∀ (ss : List Int) (k : Nat), (∀ s ∈ ss, 1 ≤ s ∧ s ≤ 4) → k + ss.length ≤ 100 → ∀ p ∈ rows k ss, small p
  | [], _, _, _, _, hp => nomatch hp
  | s :: ss, k, h, hk, p, hp => by
    rw [List.length_cons] at hk
    have hs := h s List.mem_cons_self
    rw [rows] at hp
    rcases List.mem_append.mp hp with hp | hp
    · unfold row at hp
      rcases List.mem_append.mp hp with hp | hp
      · obtain ⟨i, hi, rfl⟩ := List.mem_map.mp hp
        have := List.mem_range.mp hi
        exact small_of (by omega) (by omega) (by omega) (by omega) (by omega)
      · rw [List.mem_singleton.mp hp]
        exact small_of (by omega) (by omega) (by omega) (by omega) (by omega)
    · exact rows_small ss (k + 1) (fun t ht => h t (List.mem_cons_of_mem _ ht)) (by omega) p hp
theorem ties_gd {ss : List Int} {es : List T5} (hl : ss.length ≤ 4) (he : es.length ≤ 12) (hs : ∀ s ∈ ss, 1 ≤ s ∧ s ≤ 4) (hb : ∀ p ∈ es, small p) : Gd (.fl ((tiesOf ss es).map wv)) := by
  have hlen := tiesOf_len hl he hs
  refine ⟨by simp only [MV.sok]; exact wv_sok_all _, ?_, ?_, ?_⟩
  · simp only [MV.shb]
    refine shbAll_iff.mpr fun x hx => ?_
    obtain ⟨p, hp, rfl⟩ := List.mem_map.mp hx
    have : p ∈ es ++ rows 0 ss := (List.mergeSort_perm (es ++ rows 0 ss) leW).mem_iff.mp hp
    rcases List.mem_append.mp this with h | h
    · exact hb p h
    · exact rows_small ss 0 hs (by omega) p h
  · simp only [MV.dep]
    have := wv_depAll (tiesOf ss es)
    omega
  · simp only [MV.sz]
    have := wv_szAll (tiesOf ss es)
    omega
theorem pen_Hh {t : MHp} (ht : TOk t) (cs : List Int) (a v : Int) : Hh (pen cs a v t) := pen_ok ht cs a v
theorem neS_same {x : Str} {h : MHp} {Q : MQ} (k : Q (.bl false) h) : neM (.str x) (.str x) h Q := .inl ⟨x, x, rfl, rfl, by rw [beq_self_eq_true]; exact k⟩
end Lw
namespace Lw
open PySem PySem.Spec PyProof.Rows L2 Mini PySem.W
def vb : MS := (mSeq (mPar 11 12 (aCons (mB reprM2 (aCons (mVar 9) aNil)) (aCons (mCall f__law_is_plan (aCons (mVar 9) aNil)) aNil)))
    (mSeq (mIf (tOr (tV (mOp2 neM (mB reprM2 (aCons (mCall f_is_endless (aCons (mVar 9) aNil)) aNil)) (mB reprM2 (aCons (mVar 12) aNil)))) (tV (mOp2 neM (mB reprM2 (aCons (mVar 9) aNil)) (mVar 11)))) (mRet (mBl false)) mNext)
    (mIf (tV (mVar 12)) (mSeq (mAsg (mCall f_links_of (aCons (mVar 9) aNil)) (gN 13))
    (mSeq (mIf (tV (mOp2 neM (mB reprM2 (aCons (mVar 13) aNil)) (mB reprM2 (aCons (mCall f__law_all_ties (aCons (mVar 9) aNil)) aNil)))) (mRet (mBl false)) mNext)
    (mSeq (mDrop (mMt appendM (mVar 13) (aCons mNon aNil)))
    (mIf (tV (mOp2 neM (mB reprM2 (aCons (mCall f_links_of (aCons (mVar 9) aNil)) aNil)) (mB reprM2 (aCons (mCall f__law_all_ties (aCons (mVar 9) aNil)) aNil)))) (mRet (mBl false)) mNext)))) mNext)))
theorem tok_snoc {t : MHp} (ht : TOk t) {xs : List MV} (hx : sokAll xs = true) : TOk (t ++ [.lst xs]) := fun c hc n => by
  rcases List.mem_append.mp hc with hc | hc
  · exact ht c hc n
  · rw [List.mem_singleton.mp hc]
    exact loAll_sok n xs hx
theorem pen_snoc {cs : List Int} {a v : Int} {t : MHp} {c : Cell} : pen cs a v t ++ [c] = pen cs a v (t ++ [c]) := rfl
theorem vals_loop {ok : MHp → Prop} (hok : ∀ h, ok h) {cs : List Int} {a pv : Int} {D : MD} {s0 s1 s2 s3 s4 s5 s6 s7 s8 s10 s14 s15 : Option MV} : ∀ (vs : List MV) (t : MHp) (s9 s11 s12 s13 : Option MV), TOk t → (∀ v ∈ vs, Gd v) →
    (∀ t s9 s11 s12 s13, TOk t → D.nx [s0, s1, s2, s3, s4, s5, s6, s7, s8, s9, s10, s11, s12, s13, s14, s15] (pen cs a pv t)) →
    forM ok (gN 9) vb vs [s0, s1, s2, s3, s4, s5, s6, s7, s8, s9, s10, s11, s12, s13, s14, s15] (pen cs a pv t) D
  | [], t, s9, s11, s12, s13, ht, _, hn => ⟨hok _, hn t s9 s11 s12 s13 ht⟩
  | w :: vs, t, s9, s11, s12, s13, ht, hv, hn => by
    have good := fun t s9 s11 s12 s13 ht => vals_loop hok (cs := cs) (a := a) (pv := pv) (D := D) (s0 := s0) (s1 := s1) (s2 := s2) (s3 := s3) (s4 := s4) (s5 := s5) (s6 := s6) (s7 := s7) (s8 := s8) (s10 := s10) (s14 := s14) (s15 := s15) vs t s9 s11 s12 s13 ht (fun u hu => hv u (List.mem_cons_of_mem _ hu)) hn
    have gw := hv w List.mem_cons_self
    refine ⟨hok _, ?_⟩
    have gk : ∀ K : MSt → MHp → Prop, (∀ t s9 s11 s12 s13, TOk t → K [s0, s1, s2, s3, s4, s5, s6, s7, s8, s9, s10, s11, s12, s13, s14, s15] (pen cs a pv t)) →
        gN 9 w [s0, s1, s2, s3, s4, s5, s6, s7, s8, s9, s10, s11, s12, s13, s14, s15] (pen cs a pv t) (fun s1 h1 => vb s1 h1 { D with nx := K, ct := K, bk := D.nx }) (fun e h' => D.ex e [s0, s1, s2, s3, s4, s5, s6, s7, s8, s9, s10, s11, s12, s13, s14, s15] h') := by
      clear good
      intro K good
      have hh := pen_Hh ht cs a pv
      simp only [vb, getK, setK, Option.isSome_some, eqM_int, neM_int, kit_ii, kit_bi, kit_ni, kit_si, kit_ti, kit_li, kit_ib, kit_bb, kit_tt, kit_it, kit_bt, kit_nt, kit_st, kit_lt, atI0, atI1, atI2, ixN30, ixN31, ixN32, mFn, startM, mSeq, mIf, mAsg, mRet, mRetN, mDrop, mNext, gN, gT, gsCons, gsNil, gIx, mVar, mInt, mBl, mNon, mStr, mC, mOp1, mOp2, int2, plusM, addM, mulM2, negM, isM, isNotM, isNoneM, tV, tNo, tAn, Mini.tOr, mAnd, mOr, mNot, Mini.notM, Bool.not_false, Bool.not_true, Bool.false_eq_true, if_false, if_true, reduceIte, mIfE, aNil, aCons, mTup, mLst, mLstC, mSl, slM, pNo, pAt, mB, mCall, lenM, listM, listMC, tupleM, intM, boolM, ixM, ixV, seqOf, lstOf, Mini.cellOf, mPar, mPar3, mLc, mLcC, mFor, iSeq, Mini.iRng1, Mini.iRng2, Mini.iEnum, Mini.iZip, mIsi, isiM, tyM, mMt, mMt0, appendM, extendM, popM, catF, catF.lstM, mChain, tAll, wipeM, mdK, Prod.mk.injEq, and_assoc, List.map_cons, List.map_nil, List.length_cons, List.length_nil, List.replicate, List.cons_append, List.nil_append, List.getElem?_cons_zero, List.getElem?_cons_succ, List.set_cons_zero, List.set_cons_succ, Option.some.injEq, exists_eq_left', exists_eq_left, true_and, and_true, List.cons.injEq, MV.int.injEq, MV.bl.injEq, MV.tup.injEq, MV.fl.injEq, MV.str.injEq, MV.ref.injEq, Option.bind_some, exists_and_left, exists_const, Nat.sub_self, Nat.reduceSub, Nat.reduceAdd, List.append_nil, List.nil_append, List.length_map, Nat.add_zero, Nat.zero_add]
      refine repr_ok gw (law_plan_ok hh gw.sok ?_)
      simp only [getK, setK, Option.isSome_some, eqM_int, neM_int, kit_ii, kit_bi, kit_ni, kit_si, kit_ti, kit_li, kit_ib, kit_bb, kit_tt, kit_it, kit_bt, kit_nt, kit_st, kit_lt, atI0, atI1, atI2, ixN30, ixN31, ixN32, mFn, startM, mSeq, mIf, mAsg, mRet, mRetN, mDrop, mNext, gN, gT, gsCons, gsNil, gIx, mVar, mInt, mBl, mNon, mStr, mC, mOp1, mOp2, int2, plusM, addM, mulM2, negM, isM, isNotM, isNoneM, tV, tNo, tAn, Mini.tOr, mAnd, mOr, mNot, Mini.notM, Bool.not_false, Bool.not_true, Bool.false_eq_true, if_false, if_true, reduceIte, mIfE, aNil, aCons, mTup, mLst, mLstC, mSl, slM, pNo, pAt, mB, mCall, lenM, listM, listMC, tupleM, intM, boolM, ixM, ixV, seqOf, lstOf, Mini.cellOf, mPar, mPar3, mLc, mLcC, mFor, iSeq, Mini.iRng1, Mini.iRng2, Mini.iEnum, Mini.iZip, mIsi, isiM, tyM, mMt, mMt0, appendM, extendM, popM, catF, catF.lstM, mChain, tAll, wipeM, mdK, Prod.mk.injEq, and_assoc, List.map_cons, List.map_nil, List.length_cons, List.length_nil, List.replicate, List.cons_append, List.nil_append, List.getElem?_cons_zero, List.getElem?_cons_succ, List.set_cons_zero, List.set_cons_succ, Option.some.injEq, exists_eq_left', exists_eq_left, true_and, and_true, List.cons.injEq, MV.int.injEq, MV.bl.injEq, MV.tup.injEq, MV.fl.injEq, MV.str.injEq, MV.ref.injEq, Option.bind_some, exists_and_left, exists_const, Nat.sub_self, Nat.reduceSub, Nat.reduceAdd, List.append_nil, List.nil_append, List.length_map, Nat.add_zero, Nat.zero_add]
      refine is_endless_ok hh gw.sok (repr_ok (gd_bl _) (repr_ok (gd_bl _) (neS_same ⟨_, rfl, ?_⟩)))
      simp only [getK, setK, Option.isSome_some, eqM_int, neM_int, kit_ii, kit_bi, kit_ni, kit_si, kit_ti, kit_li, kit_ib, kit_bb, kit_tt, kit_it, kit_bt, kit_nt, kit_st, kit_lt, atI0, atI1, atI2, ixN30, ixN31, ixN32, mFn, startM, mSeq, mIf, mAsg, mRet, mRetN, mDrop, mNext, gN, gT, gsCons, gsNil, gIx, mVar, mInt, mBl, mNon, mStr, mC, mOp1, mOp2, int2, plusM, addM, mulM2, negM, isM, isNotM, isNoneM, tV, tNo, tAn, Mini.tOr, mAnd, mOr, mNot, Mini.notM, Bool.not_false, Bool.not_true, Bool.false_eq_true, if_false, if_true, reduceIte, mIfE, aNil, aCons, mTup, mLst, mLstC, mSl, slM, pNo, pAt, mB, mCall, lenM, listM, listMC, tupleM, intM, boolM, ixM, ixV, seqOf, lstOf, Mini.cellOf, mPar, mPar3, mLc, mLcC, mFor, iSeq, Mini.iRng1, Mini.iRng2, Mini.iEnum, Mini.iZip, mIsi, isiM, tyM, mMt, mMt0, appendM, extendM, popM, catF, catF.lstM, mChain, tAll, wipeM, mdK, Prod.mk.injEq, and_assoc, List.map_cons, List.map_nil, List.length_cons, List.length_nil, List.replicate, List.cons_append, List.nil_append, List.getElem?_cons_zero, List.getElem?_cons_succ, List.set_cons_zero, List.set_cons_succ, Option.some.injEq, exists_eq_left', exists_eq_left, true_and, and_true, List.cons.injEq, MV.int.injEq, MV.bl.injEq, MV.tup.injEq, MV.fl.injEq, MV.str.injEq, MV.ref.injEq, Option.bind_some, exists_and_left, exists_const, Nat.sub_self, Nat.reduceSub, Nat.reduceAdd, List.append_nil, List.nil_append, List.length_map, Nat.add_zero, Nat.zero_add]
      refine repr_ok gw (neS_same ⟨_, rfl, ?_⟩)
      simp only [getK, setK, Option.isSome_some, eqM_int, neM_int, kit_ii, kit_bi, kit_ni, kit_si, kit_ti, kit_li, kit_ib, kit_bb, kit_tt, kit_it, kit_bt, kit_nt, kit_st, kit_lt, atI0, atI1, atI2, ixN30, ixN31, ixN32, mFn, startM, mSeq, mIf, mAsg, mRet, mRetN, mDrop, mNext, gN, gT, gsCons, gsNil, gIx, mVar, mInt, mBl, mNon, mStr, mC, mOp1, mOp2, int2, plusM, addM, mulM2, negM, isM, isNotM, isNoneM, tV, tNo, tAn, Mini.tOr, mAnd, mOr, mNot, Mini.notM, Bool.not_false, Bool.not_true, Bool.false_eq_true, if_false, if_true, reduceIte, mIfE, aNil, aCons, mTup, mLst, mLstC, mSl, slM, pNo, pAt, mB, mCall, lenM, listM, listMC, tupleM, intM, boolM, ixM, ixV, seqOf, lstOf, Mini.cellOf, mPar, mPar3, mLc, mLcC, mFor, iSeq, Mini.iRng1, Mini.iRng2, Mini.iEnum, Mini.iZip, mIsi, isiM, tyM, mMt, mMt0, appendM, extendM, popM, catF, catF.lstM, mChain, tAll, wipeM, mdK, Prod.mk.injEq, and_assoc, List.map_cons, List.map_nil, List.length_cons, List.length_nil, List.replicate, List.cons_append, List.nil_append, List.getElem?_cons_zero, List.getElem?_cons_succ, List.set_cons_zero, List.set_cons_succ, Option.some.injEq, exists_eq_left', exists_eq_left, true_and, and_true, List.cons.injEq, MV.int.injEq, MV.bl.injEq, MV.tup.injEq, MV.fl.injEq, MV.str.injEq, MV.ref.injEq, Option.bind_some, exists_and_left, exists_const, Nat.sub_self, Nat.reduceSub, Nat.reduceAdd, List.append_nil, List.nil_append, List.length_map, Nat.add_zero, Nat.zero_add]
      cases m : planB w with
      | false =>
        simp only [getK, setK, Option.isSome_some, eqM_int, neM_int, kit_ii, kit_bi, kit_ni, kit_si, kit_ti, kit_li, kit_ib, kit_bb, kit_tt, kit_it, kit_bt, kit_nt, kit_st, kit_lt, atI0, atI1, atI2, ixN30, ixN31, ixN32, mFn, startM, mSeq, mIf, mAsg, mRet, mRetN, mDrop, mNext, gN, gT, gsCons, gsNil, gIx, mVar, mInt, mBl, mNon, mStr, mC, mOp1, mOp2, int2, plusM, addM, mulM2, negM, isM, isNotM, isNoneM, tV, tNo, tAn, Mini.tOr, mAnd, mOr, mNot, Mini.notM, Bool.not_false, Bool.not_true, Bool.false_eq_true, if_false, if_true, reduceIte, mIfE, aNil, aCons, mTup, mLst, mLstC, mSl, slM, pNo, pAt, mB, mCall, lenM, listM, listMC, tupleM, intM, boolM, ixM, ixV, seqOf, lstOf, Mini.cellOf, mPar, mPar3, mLc, mLcC, mFor, iSeq, Mini.iRng1, Mini.iRng2, Mini.iEnum, Mini.iZip, mIsi, isiM, tyM, mMt, mMt0, appendM, extendM, popM, catF, catF.lstM, mChain, tAll, wipeM, mdK, Prod.mk.injEq, and_assoc, List.map_cons, List.map_nil, List.length_cons, List.length_nil, List.replicate, List.cons_append, List.nil_append, List.getElem?_cons_zero, List.getElem?_cons_succ, List.set_cons_zero, List.set_cons_succ, Option.some.injEq, exists_eq_left', exists_eq_left, true_and, and_true, List.cons.injEq, MV.int.injEq, MV.bl.injEq, MV.tup.injEq, MV.fl.injEq, MV.str.injEq, MV.ref.injEq, Option.bind_some, exists_and_left, exists_const, Nat.sub_self, Nat.reduceSub, Nat.reduceAdd, List.append_nil, List.nil_append, List.length_map, Nat.add_zero, Nat.zero_add]
        exact good t _ _ _ _ ht
      | true =>
        obtain ⟨ss, es, rfl, hl, he, hs⟩ := planB_shape m
        have hb : ∀ p ∈ es, small p := fun p hp => by
          have h1 := gw.shb
          simp only [plan, MV.shb, shbAll, Bool.and_true, Bool.and_eq_true] at h1
          exact shbAll_iff.mp h1.2 _ (List.mem_map.mpr ⟨p, hp, rfl⟩)
        have gt := ties_gd hl he hs hb
        have dt : ∀ (h : MHp), der (h ++ [.lst ((tiesOf ss es).map wv)]) (.ref h.length) = .fl ((tiesOf ss es).map wv) := fun h => by
          simp only [der, getK]
        have rt : ∀ (h : MHp) (Q : MQ), Q (.str (MV.fl ((tiesOf ss es).map wv)).dat.shown) (h ++ [.lst ((tiesOf ss es).map wv)]) → reprM2 [.ref h.length] (h ++ [.lst ((tiesOf ss es).map wv)]) Q := fun h Q k =>
          ⟨_, rfl, by rw [dt]; exact gt.sok, by rw [dt]; exact rok_of gt.sok gt.shb gt.dep (by have := gt.sz; omega), by rw [dt]; exact k⟩
        have ht2 := tok_snoc ht (wv_sok_all (tiesOf ss es))
        simp only [getK, setK, Option.isSome_some, eqM_int, neM_int, kit_ii, kit_bi, kit_ni, kit_si, kit_ti, kit_li, kit_ib, kit_bb, kit_tt, kit_it, kit_bt, kit_nt, kit_st, kit_lt, atI0, atI1, atI2, ixN30, ixN31, ixN32, mFn, startM, mSeq, mIf, mAsg, mRet, mRetN, mDrop, mNext, gN, gT, gsCons, gsNil, gIx, mVar, mInt, mBl, mNon, mStr, mC, mOp1, mOp2, int2, plusM, addM, mulM2, negM, isM, isNotM, isNoneM, tV, tNo, tAn, Mini.tOr, mAnd, mOr, mNot, Mini.notM, Bool.not_false, Bool.not_true, Bool.false_eq_true, if_false, if_true, reduceIte, mIfE, aNil, aCons, mTup, mLst, mLstC, mSl, slM, pNo, pAt, mB, mCall, lenM, listM, listMC, tupleM, intM, boolM, ixM, ixV, seqOf, lstOf, Mini.cellOf, mPar, mPar3, mLc, mLcC, mFor, iSeq, Mini.iRng1, Mini.iRng2, Mini.iEnum, Mini.iZip, mIsi, isiM, tyM, mMt, mMt0, appendM, extendM, popM, catF, catF.lstM, mChain, tAll, wipeM, mdK, Prod.mk.injEq, and_assoc, List.map_cons, List.map_nil, List.length_cons, List.length_nil, List.replicate, List.cons_append, List.nil_append, List.getElem?_cons_zero, List.getElem?_cons_succ, List.set_cons_zero, List.set_cons_succ, Option.some.injEq, exists_eq_left', exists_eq_left, true_and, and_true, List.cons.injEq, MV.int.injEq, MV.bl.injEq, MV.tup.injEq, MV.fl.injEq, MV.str.injEq, MV.ref.injEq, Option.bind_some, exists_and_left, exists_const, Nat.sub_self, Nat.reduceSub, Nat.reduceAdd, List.append_nil, List.nil_append, List.length_map, Nat.add_zero, Nat.zero_add]
        refine links_of_ok (v := .non) m hl he hs gw.sok hh ?_
        generalize hP : pen cs a pv t = P at hh
        refine rt P _ ?_
        have hh2 : Hh (P ++ [.lst ((tiesOf ss es).map wv)]) := by rw [← hP]; exact pen_Hh ht2 cs a pv
        refine all_ties_ok hl he hs hh2 (repr_ok gt (neS_same ⟨_, rfl, ?_⟩))
        rw [if_neg (by decide)]
        simp only [getK]
        have ht3 := tok_snoc ht (xs := (tiesOf ss es).map wv ++ [.non]) (sokAll_iff.mpr fun x hx => by
          rcases List.mem_append.mp hx with hx | hx
          · exact sokAll_iff.mp (wv_sok_all _) x hx
          · rw [List.mem_singleton.mp hx] <;> rfl)
        have hh3 : Hh (P ++ [.lst ((tiesOf ss es).map wv ++ [.non])]) := by rw [← hP]; exact pen_Hh ht3 cs a pv
        have hlen := tiesOf_len hl he hs
        refine ⟨rfl, P.length, _, rfl, by rw [sizeLine_eq, List.length_map]; omega, ?_⟩
        rw [setK]
        refine links_of_ok (v := .non) m hl he hs gw.sok hh3 ?_
        refine rt _ _ ?_
        have ht4 := tok_snoc ht3 (wv_sok_all (tiesOf ss es))
        have hh4 : Hh ((P ++ [.lst ((tiesOf ss es).map wv ++ [.non])]) ++ [.lst ((tiesOf ss es).map wv)]) := by rw [← hP]; exact pen_Hh ht4 cs a pv
        refine all_ties_ok hl he hs hh4 (repr_ok gt (neS_same ⟨_, rfl, ?_⟩))
        rw [if_neg (by decide)]
        have g := good _ (some (plan ss es)) (some (.str (plan ss es).dat.shown)) (some (.bl true)) (some (.ref P.length)) ht4
        rw [← hP] at g ⊢
        exact g
    exact gk _ fun t s9 s11 s12 s13 ht => good t s9 s11 s12 s13 ht
end Lw
namespace Lw
open PySem PySem.Spec PyProof.Rows L2 Mini PySem.W
/-! ### bent values -/
structure GA (xs : List MV) (S d : Nat) : Prop where
  sok : sokAll xs = true
  shb : shbAll xs = true
  dep : depAll xs ≤ d
  sz : szAll xs ≤ S
theorem depAll_le {xs : List MV} {d : Nat} : depAll xs ≤ d ↔ ∀ x ∈ xs, x.dep ≤ d := by
  induction xs with
  | nil => simp [depAll]
  | cons x xs ih => simp [depAll, Nat.max_le, ih]
theorem szAll_append : ∀ xs ys : List MV, szAll (xs ++ ys) = szAll xs + szAll ys
  | [], ys => by simp [szAll]
  | x :: xs, ys => by simp only [List.cons_append, szAll, szAll_append xs ys]; omega
theorem szAll_take (xs : List MV) (k : Nat) : szAll (xs.take k) ≤ szAll xs := by
  conv => rhs; rw [← List.take_append_drop k xs, szAll_append]
  omega
theorem szAll_drop (xs : List MV) (k : Nat) : szAll (xs.drop k) ≤ szAll xs := by
  conv => rhs; rw [← List.take_append_drop k xs, szAll_append]
  omega
theorem GA.sub {xs ys : List MV} {S d : Nat} (g : GA xs S d) (h : ∀ y ∈ ys, y ∈ xs) (hz : szAll ys ≤ S) : GA ys S d :=
  ⟨sokAll_iff.mpr fun y hy => sokAll_iff.mp g.sok y (h y hy), shbAll_iff.mpr fun y hy => shbAll_iff.mp g.shb y (h y hy), depAll_le.mpr fun y hy => depAll_le.mp g.dep y (h y hy), hz⟩
theorem GA.cut {xs : List MV} {S d : Nat} (g : GA xs S d) (lo hi : Option Int) : GA (cutM xs lo hi) S d := by
  unfold cutM
  exact g.sub (fun y hy => List.mem_of_mem_drop (List.mem_of_mem_take hy)) (Nat.le_trans (szAll_take _ _) (Nat.le_trans (szAll_drop _ _) g.sz))
theorem szAll_reverse : ∀ xs : List MV, szAll xs.reverse = szAll xs
  | [] => rfl
  | x :: xs => by
    rw [List.reverse_cons, szAll_append, szAll_reverse xs]
    simp only [szAll]
    omega
theorem GA.rev {xs : List MV} {S d : Nat} (g : GA xs S d) : GA xs.reverse S d := g.sub (fun y hy => List.mem_reverse.mp hy) (by rw [szAll_reverse]; exact g.sz)
theorem GA.app {xs ys : List MV} {S S' d : Nat} (g : GA xs S d) (g' : GA ys S' d) : GA (xs ++ ys) (S + S') d :=
  ⟨sokAll_iff.mpr fun y hy => (List.mem_append.mp hy).elim (sokAll_iff.mp g.sok y) (sokAll_iff.mp g'.sok y), shbAll_iff.mpr fun y hy => (List.mem_append.mp hy).elim (shbAll_iff.mp g.shb y) (shbAll_iff.mp g'.shb y),
    depAll_le.mpr fun y hy => (List.mem_append.mp hy).elim (depAll_le.mp g.dep y) (depAll_le.mp g'.dep y), by rw [szAll_append]; have := g.sz; have := g'.sz; omega⟩
theorem GA.len {xs : List MV} {S d : Nat} (g : GA xs S d) : 2 * xs.length ≤ S := by
  have : ∀ xs : List MV, 2 * xs.length ≤ szAll xs := by
    intro xs
    induction xs with
    | nil => simp
    | cons x xs ih => rw [List.length_cons]; simp only [szAll]; omega
  exact Nat.le_trans (this xs) g.sz
/-- a value within bounds -/
structure GV (v : MV) (S d : Nat) : Prop where
  sok : v.sok = true
  shb : v.shb = true
  dep : v.dep ≤ d
  sz : v.sz ≤ S
theorem GA.tup {xs : List MV} {S d : Nat} (g : GA xs S d) : GV (.tup xs) (S + 4) (d + 1) := ⟨by simpa [MV.sok] using g.sok, by simpa [MV.shb] using g.shb, by simp only [MV.dep]; exact Nat.succ_le_succ g.dep, by simp only [MV.sz]; exact Nat.add_le_add_right g.sz 4⟩
theorem GA.lst {xs : List MV} {S d : Nat} (g : GA xs S d) : GV (.fl xs) (S + 4) (d + 1) := ⟨by simpa [MV.sok] using g.sok, by simpa [MV.shb] using g.shb, by simp only [MV.dep]; exact Nat.succ_le_succ g.dep, by simp only [MV.sz]; exact Nat.add_le_add_right g.sz 4⟩
theorem GV.all {xs : List MV} {S d : Nat} (g : GV (.tup xs) S (d + 1)) : GA xs S d := ⟨by simpa [MV.sok] using g.sok, by simpa [MV.shb] using g.shb, by have := g.dep; simp only [MV.dep] at this; omega, by have := g.sz; simp only [MV.sz] at this; omega⟩
theorem GV.mono {v : MV} {S d S' d' : Nat} (g : GV v S d) (h : S ≤ S') (h' : d ≤ d') : GV v S' d' := ⟨g.sok, g.shb, Nat.le_trans g.dep h', Nat.le_trans g.sz h⟩
theorem GA.at {xs : List MV} {S d : Nat} (g : GA xs S d) {x : MV} (h : x ∈ xs) : GV x S d := by
  refine ⟨sokAll_iff.mp g.sok x h, shbAll_iff.mp g.shb x h, depAll_le.mp g.dep x h, Nat.le_trans ?_ g.sz⟩
  clear g
  induction xs with
  | nil => cases h
  | cons y ys ih =>
    simp only [szAll]
    rcases List.mem_cons.mp h with rfl | h
    · omega
    · have := ih h; omega
theorem GA.one {x : MV} {S d : Nat} (g : GV x S d) : GA [x] (S + 2) d := ⟨by simp [sokAll, g.sok], by simp [shbAll, g.shb], by simp [depAll, g.dep], by simp [szAll, g.sz]⟩
def atoms : List MV := [.non, .int 0, .int 1, .int 2, .int 4, .int 5, .int (-1), .bl true, .bl false, .str "", .str "a", .tup [], .fl [], .tup [.int 0, .int 0], .tup [.int 1, .int 0], .tup [.tup [.int 0, .int 0]]]
theorem atoms_ok : ∀ x ∈ atoms, GV x 30000 2 := by
  have e : (atoms.all fun x => (x.sok && x.shb) && (decide (x.dep ≤ 2) && decide (x.sz ≤ 30000))) = true := by decide +kernel
  intro x hx
  have := List.all_eq_true.mp e x hx
  simp only [Bool.and_eq_true, decide_eq_true_eq] at this
  exact ⟨this.1.1, this.1.2, this.2.1, this.2.2⟩
theorem tup_ok {xs : List MV} {S d : Nat} (g : GA xs S d) (hd : d ≤ 50) : (MV.tup xs).ok = true := by
  have h := g.tup
  unfold MV.ok
  rw [h.sok, decide_eq_true (show (MV.tup xs).dep ≤ 60 by have := h.dep; omega)] <;> rfl
theorem eq_nil {xs : List MV} {S d : Nat} (g : GA xs S d) (hd : d ≤ 50) {h : MHp} {Q : MQ} (k : Q (.bl xs.isEmpty) h) : eqM (.tup xs) (.tup []) h Q := by
  refine .inr ⟨tup_ok g hd, show (MV.tup []).ok = true from by decide +kernel, ?_⟩
  have : (der h (.tup xs)).eqv (der h (.tup [])) = xs.isEmpty := by
    show (MV.tup xs).eqv (.tup []) = _
    cases xs <;> simp [MV.eqv, eqvAll]
  rw [this]
  exact k
/-- draws and values that a bending needs -/
def bS (k S : Nat) : Nat := (k + 1) * (2 * S + 30000)
theorem bS_succ (k S : Nat) : bS (k + 1) S = bS k S + (2 * S + 30000) := by unfold bS; rw [Nat.add_mul, Nat.one_mul]
theorem bS_ge (k S : Nat) : 2 * S + 30000 ≤ bS k S := by
  unfold bS
  rw [Nat.add_mul, Nat.one_mul]
  omega
end Lw
namespace Lw
open PySem PySem.Spec PyProof.Rows L2 Mini PySem.W
theorem bent_ok {cs : List Int} {t : MHp} (ht : TOk t) : ∀ (k : Nat) {v : MV} {S : Nat} {a pv : Int}, GV v S k → k ≤ 40 → S ≤ 1000000 → 0 ≤ a → a + 4 * (k + 1) < 2 ^ 30 → ∀ {Q E : MQ},
    (∀ b a' v', GV b (bS k S) (k + 2) → a ≤ a' → a' ≤ a + 4 * (k + 1) → Q b (pen cs a' v' t)) → f__law_bent (k + 1) [.ref 1, v] (pen cs a pv t) Q E := by
  intro k
  induction k with
  | zero =>
    intro v S a pv g hk hS ha hb Q E hQ
    have hge := bS_ge 0 S
    have atom : ∀ a1 v1, a ≤ a1 → a1 ≤ a + 1 → f__law_one [.ref 1, .fl atoms] (pen cs a1 v1 t) (mdF (t.length + 1 + 1) Q) (fun e h' => mdD (t.length + 1 + 1) E e h') := fun a1 v1 h1 h2 => by
      refine one_ok ht (by omega) (by omega) (fun x hx => (atoms_ok x hx).sok) (by simp [atoms]) (by decide) fun x a' v' hx h3 h4 => ?_
      have gx := atoms_ok x hx
      exact pen_endS ht rfl gx.sok (hQ x a' v' (gx.mono (by omega) (by omega)) (by omega) (by omega))
    cases v <;> first | (have := g.sok; simp [MV.sok] at this; done) | skip
    case tup xs =>
      have := g.dep
      simp only [MV.dep] at this
      omega
    all_goals
      refine ⟨rfl, ?_⟩
      unfold b__law_bent
      generalize hrest : (mSeq (mPar 2 3 _) _) = rest
      simp only [getK, setK, Option.isSome_some, eqM_int, neM_int, kit_ii, kit_bi, kit_ni, kit_si, kit_ti, kit_li, kit_ib, kit_bb, kit_tt, kit_it, kit_bt, kit_nt, kit_st, kit_lt, atI0, atI1, atI2, ixN30, ixN31, ixN32, mFn, startM, mSeq, mIf, mAsg, mRet, mRetN, mDrop, mNext, gN, gT, gsCons, gsNil, gIx, mVar, mInt, mBl, mNon, mStr, mC, mOp1, mOp2, int2, plusM, addM, mulM2, negM, isM, isNotM, isNoneM, tV, tNo, tAn, Mini.tOr, mAnd, mOr, mNot, Mini.notM, Bool.not_false, Bool.not_true, Bool.false_eq_true, if_false, if_true, reduceIte, mIfE, aNil, aCons, mTup, mLst, mLstC, mSl, slM, pNo, pAt, mB, mCall, lenM, listM, listMC, tupleM, intM, boolM, ixM, ixV, seqOf, lstOf, Mini.cellOf, mPar, mPar3, mLc, mLcC, mFor, iSeq, Mini.iRng1, Mini.iRng2, Mini.iEnum, Mini.iZip, mIsi, isiM, tyM, mMt, mMt0, appendM, extendM, popM, catF, catF.lstM, mChain, tAll, wipeM, mdK, Prod.mk.injEq, and_assoc, List.map_cons, List.map_nil, List.length_cons, List.length_nil, List.replicate, List.cons_append, List.nil_append, List.getElem?_cons_zero, List.getElem?_cons_succ, List.set_cons_zero, List.set_cons_succ, Option.some.injEq, exists_eq_left', exists_eq_left, true_and, and_true, List.cons.injEq, MV.int.injEq, MV.bl.injEq, MV.tup.injEq, MV.fl.injEq, MV.str.injEq, MV.ref.injEq, Option.bind_some, exists_and_left, exists_const, Nat.sub_self, Nat.reduceSub, Nat.reduceAdd, List.append_nil, List.nil_append, List.length_map, Nat.add_zero, Nat.zero_add]
      exact ⟨smallLine (by decide), smallLine (by decide), smallLine (by decide), smallLine (by decide), smallLine (by decide), smallLine (by decide), smallLine (by decide), atom a pv (Int.le_refl _) (by omega)⟩
  | succ k ih =>
    intro v S a pv g hk hS ha hb Q E hQ
    have hge := bS_ge (k + 1) S
    have atom : ∀ a1 v1, a ≤ a1 → a1 ≤ a + 1 → f__law_one [.ref 1, .fl atoms] (pen cs a1 v1 t) (mdF (t.length + 1 + 1) Q) (fun e h' => mdD (t.length + 1 + 1) E e h') := fun a1 v1 h1 h2 => by
      refine one_ok ht (by omega) (by omega) (fun x hx => (atoms_ok x hx).sok) (by simp [atoms]) (by decide) fun x a' v' hx h3 h4 => ?_
      have gx := atoms_ok x hx
      exact pen_endS ht rfl gx.sok (hQ x a' v' (gx.mono (by omega) (by omega)) (by omega) (by omega))
    cases v <;> first | (have := g.sok; simp [MV.sok] at this; done) | skip
    case tup xs =>
      have gx := g.all
      have hln := gx.len
      refine ⟨rfl, ?_⟩
      unfold b__law_bent
      generalize hrest : (mSeq (mPar 2 3 _) _) = rest
      simp only [getK, setK, Option.isSome_some, eqM_int, neM_int, kit_ii, kit_bi, kit_ni, kit_si, kit_ti, kit_li, kit_ib, kit_bb, kit_tt, kit_it, kit_bt, kit_nt, kit_st, kit_lt, atI0, atI1, atI2, ixN30, ixN31, ixN32, mFn, startM, mSeq, mIf, mAsg, mRet, mRetN, mDrop, mNext, gN, gT, gsCons, gsNil, gIx, mVar, mInt, mBl, mNon, mStr, mC, mOp1, mOp2, int2, plusM, addM, mulM2, negM, isM, isNotM, isNoneM, tV, tNo, tAn, Mini.tOr, mAnd, mOr, mNot, Mini.notM, Bool.not_false, Bool.not_true, Bool.false_eq_true, if_false, if_true, reduceIte, mIfE, aNil, aCons, mTup, mLst, mLstC, mSl, slM, pNo, pAt, mB, mCall, lenM, listM, listMC, tupleM, intM, boolM, ixM, ixV, seqOf, lstOf, Mini.cellOf, mPar, mPar3, mLc, mLcC, mFor, iSeq, Mini.iRng1, Mini.iRng2, Mini.iEnum, Mini.iZip, mIsi, isiM, tyM, mMt, mMt0, appendM, extendM, popM, catF, catF.lstM, mChain, tAll, wipeM, mdK, Prod.mk.injEq, and_assoc, List.map_cons, List.map_nil, List.length_cons, List.length_nil, List.replicate, List.cons_append, List.nil_append, List.getElem?_cons_zero, List.getElem?_cons_succ, List.set_cons_zero, List.set_cons_succ, Option.some.injEq, exists_eq_left', exists_eq_left, true_and, and_true, List.cons.injEq, MV.int.injEq, MV.bl.injEq, MV.tup.injEq, MV.fl.injEq, MV.str.injEq, MV.ref.injEq, Option.bind_some, exists_and_left, exists_const, Nat.sub_self, Nat.reduceSub, Nat.reduceAdd, List.append_nil, List.nil_append, List.length_map, Nat.add_zero, Nat.zero_add]
      refine ⟨smallLine (by decide), eq_nil gx (by omega) ⟨_, rfl, ?_⟩⟩
      cases hxs : xs.isEmpty with
      | true =>
        simp only [getK, setK, Option.isSome_some, eqM_int, neM_int, kit_ii, kit_bi, kit_ni, kit_si, kit_ti, kit_li, kit_ib, kit_bb, kit_tt, kit_it, kit_bt, kit_nt, kit_st, kit_lt, atI0, atI1, atI2, ixN30, ixN31, ixN32, mFn, startM, mSeq, mIf, mAsg, mRet, mRetN, mDrop, mNext, gN, gT, gsCons, gsNil, gIx, mVar, mInt, mBl, mNon, mStr, mC, mOp1, mOp2, int2, plusM, addM, mulM2, negM, isM, isNotM, isNoneM, tV, tNo, tAn, Mini.tOr, mAnd, mOr, mNot, Mini.notM, Bool.not_false, Bool.not_true, Bool.false_eq_true, if_false, if_true, reduceIte, mIfE, aNil, aCons, mTup, mLst, mLstC, mSl, slM, pNo, pAt, mB, mCall, lenM, listM, listMC, tupleM, intM, boolM, ixM, ixV, seqOf, lstOf, Mini.cellOf, mPar, mPar3, mLc, mLcC, mFor, iSeq, Mini.iRng1, Mini.iRng2, Mini.iEnum, Mini.iZip, mIsi, isiM, tyM, mMt, mMt0, appendM, extendM, popM, catF, catF.lstM, mChain, tAll, wipeM, mdK, Prod.mk.injEq, and_assoc, List.map_cons, List.map_nil, List.length_cons, List.length_nil, List.replicate, List.cons_append, List.nil_append, List.getElem?_cons_zero, List.getElem?_cons_succ, List.set_cons_zero, List.set_cons_succ, Option.some.injEq, exists_eq_left', exists_eq_left, true_and, and_true, List.cons.injEq, MV.int.injEq, MV.bl.injEq, MV.tup.injEq, MV.fl.injEq, MV.str.injEq, MV.ref.injEq, Option.bind_some, exists_and_left, exists_const, Nat.sub_self, Nat.reduceSub, Nat.reduceAdd, List.append_nil, List.nil_append, List.length_map, Nat.add_zero, Nat.zero_add]
        exact ⟨smallLine (by decide), smallLine (by decide), smallLine (by decide), smallLine (by decide), smallLine (by decide), smallLine (by decide), smallLine (by decide), atom a pv (Int.le_refl _) (by omega)⟩
      | false =>
        have hpos : 0 < xs.length := by
          cases xs with
          | nil => simp at hxs
          | cons x xs => simp
        simp only [getK, setK, Option.isSome_some, eqM_int, neM_int, kit_ii, kit_bi, kit_ni, kit_si, kit_ti, kit_li, kit_ib, kit_bb, kit_tt, kit_it, kit_bt, kit_nt, kit_st, kit_lt, atI0, atI1, atI2, ixN30, ixN31, ixN32, mFn, startM, mSeq, mIf, mAsg, mRet, mRetN, mDrop, mNext, gN, gT, gsCons, gsNil, gIx, mVar, mInt, mBl, mNon, mStr, mC, mOp1, mOp2, int2, plusM, addM, mulM2, negM, isM, isNotM, isNoneM, tV, tNo, tAn, Mini.tOr, mAnd, mOr, mNot, Mini.notM, Bool.not_false, Bool.not_true, Bool.false_eq_true, if_false, if_true, reduceIte, mIfE, aNil, aCons, mTup, mLst, mLstC, mSl, slM, pNo, pAt, mB, mCall, lenM, listM, listMC, tupleM, intM, boolM, ixM, ixV, seqOf, lstOf, Mini.cellOf, mPar, mPar3, mLc, mLcC, mFor, iSeq, Mini.iRng1, Mini.iRng2, Mini.iEnum, Mini.iZip, mIsi, isiM, tyM, mMt, mMt0, appendM, extendM, popM, catF, catF.lstM, mChain, tAll, wipeM, mdK, Prod.mk.injEq, and_assoc, List.map_cons, List.map_nil, List.length_cons, List.length_nil, List.replicate, List.cons_append, List.nil_append, List.getElem?_cons_zero, List.getElem?_cons_succ, List.set_cons_zero, List.set_cons_succ, Option.some.injEq, exists_eq_left', exists_eq_left, true_and, and_true, List.cons.injEq, MV.int.injEq, MV.bl.injEq, MV.tup.injEq, MV.fl.injEq, MV.str.injEq, MV.ref.injEq, Option.bind_some, exists_and_left, exists_const, Nat.sub_self, Nat.reduceSub, Nat.reduceAdd, List.append_nil, List.nil_append, List.length_map, Nat.add_zero, Nat.zero_add]
        refine take_ok ht ha (by omega) (by decide) (by decide) fun r a1 v1 r0 r1 h1 h2 => ?_
        simp only [getK, setK, Option.isSome_some, eqM_int, neM_int, kit_ii, kit_bi, kit_ni, kit_si, kit_ti, kit_li, kit_ib, kit_bb, kit_tt, kit_it, kit_bt, kit_nt, kit_st, kit_lt, atI0, atI1, atI2, ixN30, ixN31, ixN32, mFn, startM, mSeq, mIf, mAsg, mRet, mRetN, mDrop, mNext, gN, gT, gsCons, gsNil, gIx, mVar, mInt, mBl, mNon, mStr, mC, mOp1, mOp2, int2, plusM, addM, mulM2, negM, isM, isNotM, isNoneM, tV, tNo, tAn, Mini.tOr, mAnd, mOr, mNot, Mini.notM, Bool.not_false, Bool.not_true, Bool.false_eq_true, if_false, if_true, reduceIte, mIfE, aNil, aCons, mTup, mLst, mLstC, mSl, slM, pNo, pAt, mB, mCall, lenM, listM, listMC, tupleM, intM, boolM, ixM, ixV, seqOf, lstOf, Mini.cellOf, mPar, mPar3, mLc, mLcC, mFor, iSeq, Mini.iRng1, Mini.iRng2, Mini.iEnum, Mini.iZip, mIsi, isiM, tyM, mMt, mMt0, appendM, extendM, popM, catF, catF.lstM, mChain, tAll, wipeM, mdK, Prod.mk.injEq, and_assoc, List.map_cons, List.map_nil, List.length_cons, List.length_nil, List.replicate, List.cons_append, List.nil_append, List.getElem?_cons_zero, List.getElem?_cons_succ, List.set_cons_zero, List.set_cons_succ, Option.some.injEq, exists_eq_left', exists_eq_left, true_and, and_true, List.cons.injEq, MV.int.injEq, MV.bl.injEq, MV.tup.injEq, MV.fl.injEq, MV.str.injEq, MV.ref.injEq, Option.bind_some, exists_and_left, exists_const, Nat.sub_self, Nat.reduceSub, Nat.reduceAdd, List.append_nil, List.nil_append, List.length_map, Nat.add_zero, Nat.zero_add]
        cases hr : (r == 0) with
        | true =>
          simp only [getK, setK, Option.isSome_some, eqM_int, neM_int, kit_ii, kit_bi, kit_ni, kit_si, kit_ti, kit_li, kit_ib, kit_bb, kit_tt, kit_it, kit_bt, kit_nt, kit_st, kit_lt, atI0, atI1, atI2, ixN30, ixN31, ixN32, mFn, startM, mSeq, mIf, mAsg, mRet, mRetN, mDrop, mNext, gN, gT, gsCons, gsNil, gIx, mVar, mInt, mBl, mNon, mStr, mC, mOp1, mOp2, int2, plusM, addM, mulM2, negM, isM, isNotM, isNoneM, tV, tNo, tAn, Mini.tOr, mAnd, mOr, mNot, Mini.notM, Bool.not_false, Bool.not_true, Bool.false_eq_true, if_false, if_true, reduceIte, mIfE, aNil, aCons, mTup, mLst, mLstC, mSl, slM, pNo, pAt, mB, mCall, lenM, listM, listMC, tupleM, intM, boolM, ixM, ixV, seqOf, lstOf, Mini.cellOf, mPar, mPar3, mLc, mLcC, mFor, iSeq, Mini.iRng1, Mini.iRng2, Mini.iEnum, Mini.iZip, mIsi, isiM, tyM, mMt, mMt0, appendM, extendM, popM, catF, catF.lstM, mChain, tAll, wipeM, mdK, Prod.mk.injEq, and_assoc, List.map_cons, List.map_nil, List.length_cons, List.length_nil, List.replicate, List.cons_append, List.nil_append, List.getElem?_cons_zero, List.getElem?_cons_succ, List.set_cons_zero, List.set_cons_succ, Option.some.injEq, exists_eq_left', exists_eq_left, true_and, and_true, List.cons.injEq, MV.int.injEq, MV.bl.injEq, MV.tup.injEq, MV.fl.injEq, MV.str.injEq, MV.ref.injEq, Option.bind_some, exists_and_left, exists_const, Nat.sub_self, Nat.reduceSub, Nat.reduceAdd, List.append_nil, List.nil_append, List.length_map, Nat.add_zero, Nat.zero_add]
          exact ⟨smallLine (by decide), smallLine (by decide), smallLine (by decide), smallLine (by decide), smallLine (by decide), smallLine (by decide), smallLine (by decide), atom a1 v1 h1 h2⟩
        | false =>
          subst hrest
          simp only [getK, setK, Option.isSome_some, eqM_int, neM_int, kit_ii, kit_bi, kit_ni, kit_si, kit_ti, kit_li, kit_ib, kit_bb, kit_tt, kit_it, kit_bt, kit_nt, kit_st, kit_lt, atI0, atI1, atI2, ixN30, ixN31, ixN32, mFn, startM, mSeq, mIf, mAsg, mRet, mRetN, mDrop, mNext, gN, gT, gsCons, gsNil, gIx, mVar, mInt, mBl, mNon, mStr, mC, mOp1, mOp2, int2, plusM, addM, mulM2, negM, isM, isNotM, isNoneM, tV, tNo, tAn, Mini.tOr, mAnd, mOr, mNot, Mini.notM, Bool.not_false, Bool.not_true, Bool.false_eq_true, if_false, if_true, reduceIte, mIfE, aNil, aCons, mTup, mLst, mLstC, mSl, slM, pNo, pAt, mB, mCall, lenM, listM, listMC, tupleM, intM, boolM, ixM, ixV, seqOf, lstOf, Mini.cellOf, mPar, mPar3, mLc, mLcC, mFor, iSeq, Mini.iRng1, Mini.iRng2, Mini.iEnum, Mini.iZip, mIsi, isiM, tyM, mMt, mMt0, appendM, extendM, popM, catF, catF.lstM, mChain, tAll, wipeM, mdK, Prod.mk.injEq, and_assoc, List.map_cons, List.map_nil, List.length_cons, List.length_nil, List.replicate, List.cons_append, List.nil_append, List.getElem?_cons_zero, List.getElem?_cons_succ, List.set_cons_zero, List.set_cons_succ, Option.some.injEq, exists_eq_left', exists_eq_left, true_and, and_true, List.cons.injEq, MV.int.injEq, MV.bl.injEq, MV.tup.injEq, MV.fl.injEq, MV.str.injEq, MV.ref.injEq, Option.bind_some, exists_and_left, exists_const, Nat.sub_self, Nat.reduceSub, Nat.reduceAdd, List.append_nil, List.nil_append, List.length_map, Nat.add_zero, Nat.zero_add]
          refine take_ok ht (by omega) (by omega) (by omega) (by omega) fun i a2 v2 i0 i1 h3 h4 => ?_
          refine take_ok ht (by omega) (by omega) (by decide) (by decide) fun q a3 v3 q0 q1 h5 h6 => ?_
          simp only [getK, setK, Option.isSome_some, eqM_int, neM_int, kit_ii, kit_bi, kit_ni, kit_si, kit_ti, kit_li, kit_ib, kit_bb, kit_tt, kit_it, kit_bt, kit_nt, kit_st, kit_lt, atI0, atI1, atI2, ixN30, ixN31, ixN32, mFn, startM, mSeq, mIf, mAsg, mRet, mRetN, mDrop, mNext, gN, gT, gsCons, gsNil, gIx, mVar, mInt, mBl, mNon, mStr, mC, mOp1, mOp2, int2, plusM, addM, mulM2, negM, isM, isNotM, isNoneM, tV, tNo, tAn, Mini.tOr, mAnd, mOr, mNot, Mini.notM, Bool.not_false, Bool.not_true, Bool.false_eq_true, if_false, if_true, reduceIte, mIfE, aNil, aCons, mTup, mLst, mLstC, mSl, slM, pNo, pAt, mB, mCall, lenM, listM, listMC, tupleM, intM, boolM, ixM, ixV, seqOf, lstOf, Mini.cellOf, mPar, mPar3, mLc, mLcC, mFor, iSeq, Mini.iRng1, Mini.iRng2, Mini.iEnum, Mini.iZip, mIsi, isiM, tyM, mMt, mMt0, appendM, extendM, popM, catF, catF.lstM, mChain, tAll, wipeM, mdK, Prod.mk.injEq, and_assoc, List.map_cons, List.map_nil, List.length_cons, List.length_nil, List.replicate, List.cons_append, List.nil_append, List.getElem?_cons_zero, List.getElem?_cons_succ, List.set_cons_zero, List.set_cons_succ, Option.some.injEq, exists_eq_left', exists_eq_left, true_and, and_true, List.cons.injEq, MV.int.injEq, MV.bl.injEq, MV.tup.injEq, MV.fl.injEq, MV.str.injEq, MV.ref.injEq, Option.bind_some, exists_and_left, exists_const, Nat.sub_self, Nat.reduceSub, Nat.reduceAdd, List.append_nil, List.nil_append, List.length_map, Nat.add_zero, Nat.zero_add]
          have fin : ∀ (ys : List MV) (a' v' : Int) (S' d : Nat), GA ys S' d → S' + 4 ≤ bS (k + 1) S → d ≤ k + 2 → a ≤ a' → a' ≤ a + 4 * (k + 1 + 1) → mdF (t.length + 1 + 1) Q (.tup ys) (pen cs a' v' t) := fun ys a' v' S' d gy e1 e2 e3 e4 =>
            pen_endS ht rfl gy.tup.sok (hQ _ a' v' (gy.tup.mono e1 (by omega)) e3 (by omega))
          have c1 := gx.cut none (some i)
          have c2 := gx.cut (some (i + 1)) none
          have c3 := gx.cut (some i) (some (i + 1))
          have l1 := c1.len
          have l2 := c2.len
          have l3 := c3.len
          have sl : ∀ n : Nat, n ≤ 16777216 → n ≤ sizeLine := fun n h => smallLine h
          split
          · exact ⟨sl _ (by omega), fin _ _ _ _ _ (c1.app c2) (by omega) (by omega) (by omega) (by omega)⟩
          · split
            · exact ⟨sl _ (by omega), fin _ _ _ _ _ (gx.app c3) (by omega) (by omega) (by omega) (by omega)⟩
            · split
              · show 2 ≤ sizeLine ∧ _
                refine ⟨sl _ (by decide), ?_⟩
                have two : ∀ x ∈ [MV.fl xs, MV.tup xs.reverse], GV x (S + 4) (k + 1) := fun x hx => by
                  rcases List.mem_cons.mp hx with rfl | hx
                  · exact gx.lst
                  · rw [List.mem_singleton.mp hx]
                    exact gx.rev.tup
                refine one_ok ht (by omega) (by omega) (fun x hx => (two x hx).sok) (by simp) (by simp) fun x a4 v4 hx h7 h8 => ?_
                have gg := two x hx
                exact pen_endS ht rfl gg.sok (hQ _ a4 v4 (gg.mono (by omega) (by omega)) (by omega) (by omega))
              · obtain ⟨x, e1, e2⟩ := atI_at i0 i1
                have gxx := gx.at (List.mem_of_getElem? e2)
                refine ⟨x, e1, ih gxx (by omega) hS (by omega) (by omega) fun b a4 v4 gb h7 h8 => ?_⟩
                have hb2 := bS_succ k S
                have gb1 := GA.one gb
                have g3 : GA (cutM xs none (some i) ++ [b] ++ cutM xs (some (i + 1)) none) (S + (bS k S + 2) + S) (k + 2) :=
                  (GA.app ⟨c1.sok, c1.shb, Nat.le_trans c1.dep (by omega), c1.sz⟩ gb1).app ⟨c2.sok, c2.shb, Nat.le_trans c2.dep (by omega), c2.sz⟩
                refine ⟨sl _ (by decide), sl _ (by omega), sl _ (by rw [List.length_append, List.length_singleton]; omega), ?_⟩
                exact pen_endS ht rfl g3.tup.sok (hQ _ a4 v4 (g3.tup.mono (by omega) (by omega)) (by omega) (by omega))
    all_goals
      refine ⟨rfl, ?_⟩
      unfold b__law_bent
      generalize hrest : (mSeq (mPar 2 3 _) _) = rest
      simp only [getK, setK, Option.isSome_some, eqM_int, neM_int, kit_ii, kit_bi, kit_ni, kit_si, kit_ti, kit_li, kit_ib, kit_bb, kit_tt, kit_it, kit_bt, kit_nt, kit_st, kit_lt, atI0, atI1, atI2, ixN30, ixN31, ixN32, mFn, startM, mSeq, mIf, mAsg, mRet, mRetN, mDrop, mNext, gN, gT, gsCons, gsNil, gIx, mVar, mInt, mBl, mNon, mStr, mC, mOp1, mOp2, int2, plusM, addM, mulM2, negM, isM, isNotM, isNoneM, tV, tNo, tAn, Mini.tOr, mAnd, mOr, mNot, Mini.notM, Bool.not_false, Bool.not_true, Bool.false_eq_true, if_false, if_true, reduceIte, mIfE, aNil, aCons, mTup, mLst, mLstC, mSl, slM, pNo, pAt, mB, mCall, lenM, listM, listMC, tupleM, intM, boolM, ixM, ixV, seqOf, lstOf, Mini.cellOf, mPar, mPar3, mLc, mLcC, mFor, iSeq, Mini.iRng1, Mini.iRng2, Mini.iEnum, Mini.iZip, mIsi, isiM, tyM, mMt, mMt0, appendM, extendM, popM, catF, catF.lstM, mChain, tAll, wipeM, mdK, Prod.mk.injEq, and_assoc, List.map_cons, List.map_nil, List.length_cons, List.length_nil, List.replicate, List.cons_append, List.nil_append, List.getElem?_cons_zero, List.getElem?_cons_succ, List.set_cons_zero, List.set_cons_succ, Option.some.injEq, exists_eq_left', exists_eq_left, true_and, and_true, List.cons.injEq, MV.int.injEq, MV.bl.injEq, MV.tup.injEq, MV.fl.injEq, MV.str.injEq, MV.ref.injEq, Option.bind_some, exists_and_left, exists_const, Nat.sub_self, Nat.reduceSub, Nat.reduceAdd, List.append_nil, List.nil_append, List.length_map, Nat.add_zero, Nat.zero_add]
      exact ⟨smallLine (by decide), smallLine (by decide), smallLine (by decide), smallLine (by decide), smallLine (by decide), smallLine (by decide), smallLine (by decide), atom a pv (Int.le_refl _) (by omega)⟩
end Lw
namespace Lw
open PySem PySem.Spec PyProof.Rows L2 Mini PySem.W
def opb : MS := (mAsg (mOp2 plusM (mOp2 ixM (mVar 1) (mOp2 modM (mB intM (aCons (mVar 2) aNil)) (mInt 12))) (mVar 3)) (gIx (mVar 1) (mOp2 modM (mB intM (aCons (mVar 2) aNil)) (mInt 12))))
theorem open_body : b__law_open =
    (mSeq (mAsg (mB listMC (aCons (mSl slM (mVar 0) pNo (pAt (mInt 12))) aNil)) (gN 1))
    (mSeq (mFor (iEnum (aCons (mSl slM (mVar 0) (pAt (mInt 12)) (pAt (mInt 63))) aNil)) (gT (gsCons (gN 2) (gsCons (gN 3) gsNil)) 2) opb)
    (mRet (mLstC (aCons (mVar 1) (aCons (mInt 0) (aCons (mInt 0) aNil))))))) := rfl
theorem cut_ints (ns : List Int) (lo hi : Option Int) : cutM (ns.map MV.int) lo hi = (cutM ns lo hi).map .int := by
  unfold cutM
  rw [List.map_take, List.map_drop, List.length_map]
theorem set_ints {cs : List Int} {i : Nat} {c : Int} : (cs.map MV.int).set i (.int c) = (cs.set i c).map .int := by rw [List.map_set]
theorem open_loop {ok : MHp → Prop} (hok : ∀ h, ok h) {D : MD} {p : Option MV} : ∀ (ms : List Int) (k : Nat) (cs : List Int) (x y : Option MV), (ms ≠ [] → cs.length = 12) →
    (∀ (cs : List Int) (x y : Option MV), D.nx [p, some (.ref 0), x, y] [.lst (cs.map .int)]) → forM ok (gT (gsCons (gN 2) (gsCons (gN 3) gsNil)) 2) opb (enumK k (ms.map .int)) [p, some (.ref 0), x, y] [.lst (cs.map .int)] D
  | [], k, cs, x, y, _, hn => ⟨hok _, hn cs x y⟩
  | m :: ms, k, cs, x, y, hl, hn => by
    have h12 := hl (by simp)
    have good := fun cs x y h => open_loop hok (D := D) (p := p) ms (k + 1) cs x y h hn
    have e : enumK k ((m :: ms).map .int) = .tup [.int (k : Nat), .int m] :: enumK (k + 1) (ms.map .int) := by
      unfold enumK
      rw [List.map_cons, List.zipIdx_cons, List.map_cons]
    rw [e]
    refine ⟨hok _, ?_⟩
    have gk : ∀ K : MSt → MHp → Prop, (∀ (cs : List Int) (x y : Option MV), cs.length = 12 → K [p, some (.ref 0), x, y] [.lst (cs.map .int)]) → gT (gsCons (gN 2) (gsCons (gN 3) gsNil)) 2 (.tup [.int (k : Nat), .int m]) [p, some (.ref 0), x, y] [.lst (cs.map .int)] (fun s1 h1 => opb s1 h1 { D with nx := K, ct := K, bk := D.nx }) (fun e h' => D.ex e [p, some (.ref 0), x, y] h') := by
      clear good
      intro K good
      have b := fmod_bd (i := (k : Int)) (j := 12) (by decide)
      obtain ⟨v, e1, e2⟩ := atI_at (xs := cs.map MV.int) b.1 (by rw [List.length_map, h12]; exact b.2)
      rw [List.getElem?_map, Option.map_eq_some_iff] at e2
      obtain ⟨c, hc, rfl⟩ := e2
      simp only [opb, getK, setK, Option.isSome_some, eqM_int, neM_int, kit_ii, kit_bi, kit_ni, kit_si, kit_ti, kit_li, kit_ib, kit_bb, kit_tt, kit_it, kit_bt, kit_nt, kit_st, kit_lt, atI0, atI1, atI2, ixN30, ixN31, ixN32, mFn, startM, mSeq, mIf, mAsg, mRet, mRetN, mDrop, mNext, gN, gT, gsCons, gsNil, gIx, mVar, mInt, mBl, mNon, mStr, mC, mOp1, mOp2, int2, plusM, addM, mulM2, negM, isM, isNotM, isNoneM, tV, tNo, tAn, Mini.tOr, mAnd, mOr, mNot, Mini.notM, Bool.not_false, Bool.not_true, Bool.false_eq_true, if_false, if_true, reduceIte, mIfE, aNil, aCons, mTup, mLst, mLstC, mSl, slM, pNo, pAt, mB, mCall, lenM, listM, listMC, tupleM, intM, boolM, ixM, ixV, seqOf, lstOf, Mini.cellOf, mPar, mPar3, mLc, mLcC, mFor, iSeq, Mini.iRng1, Mini.iRng2, Mini.iEnum, Mini.iZip, mIsi, isiM, tyM, mMt, mMt0, appendM, extendM, popM, catF, catF.lstM, mChain, tAll, wipeM, mdK, Prod.mk.injEq, and_assoc, List.map_cons, List.map_nil, List.length_cons, List.length_nil, List.replicate, List.cons_append, List.nil_append, List.getElem?_cons_zero, List.getElem?_cons_succ, List.set_cons_zero, List.set_cons_succ, Option.some.injEq, exists_eq_left', exists_eq_left, true_and, and_true, List.cons.injEq, MV.int.injEq, MV.bl.injEq, MV.tup.injEq, MV.fl.injEq, MV.str.injEq, MV.ref.injEq, Option.bind_some, exists_and_left, exists_const, Nat.sub_self, Nat.reduceSub, Nat.reduceAdd, List.append_nil, List.nil_append, List.length_map, Nat.add_zero, Nat.zero_add]
      refine ⟨by decide, _, e1, ?_⟩
      simp only [getK, setK, Option.isSome_some, eqM_int, neM_int, kit_ii, kit_bi, kit_ni, kit_si, kit_ti, kit_li, kit_ib, kit_bb, kit_tt, kit_it, kit_bt, kit_nt, kit_st, kit_lt, atI0, atI1, atI2, ixN30, ixN31, ixN32, mFn, startM, mSeq, mIf, mAsg, mRet, mRetN, mDrop, mNext, gN, gT, gsCons, gsNil, gIx, mVar, mInt, mBl, mNon, mStr, mC, mOp1, mOp2, int2, plusM, addM, mulM2, negM, isM, isNotM, isNoneM, tV, tNo, tAn, Mini.tOr, mAnd, mOr, mNot, Mini.notM, Bool.not_false, Bool.not_true, Bool.false_eq_true, if_false, if_true, reduceIte, mIfE, aNil, aCons, mTup, mLst, mLstC, mSl, slM, pNo, pAt, mB, mCall, lenM, listM, listMC, tupleM, intM, boolM, ixM, ixV, seqOf, lstOf, Mini.cellOf, mPar, mPar3, mLc, mLcC, mFor, iSeq, Mini.iRng1, Mini.iRng2, Mini.iEnum, Mini.iZip, mIsi, isiM, tyM, mMt, mMt0, appendM, extendM, popM, catF, catF.lstM, mChain, tAll, wipeM, mdK, Prod.mk.injEq, and_assoc, List.map_cons, List.map_nil, List.length_cons, List.length_nil, List.replicate, List.cons_append, List.nil_append, List.getElem?_cons_zero, List.getElem?_cons_succ, List.set_cons_zero, List.set_cons_succ, Option.some.injEq, exists_eq_left', exists_eq_left, true_and, and_true, List.cons.injEq, MV.int.injEq, MV.bl.injEq, MV.tup.injEq, MV.fl.injEq, MV.str.injEq, MV.ref.injEq, Option.bind_some, exists_and_left, exists_const, Nat.sub_self, Nat.reduceSub, Nat.reduceAdd, List.append_nil, List.nil_append, List.length_map, Nat.add_zero, Nat.zero_add]
      refine ⟨by decide, ((k : Int).fmod 12).toNat, ?_, ?_⟩
      · unfold ixN
        rw [h12, if_pos b.1, if_pos (show (k : Int).fmod 12 < ((12 : Nat) : Int) from b.2)]
      · rw [set_ints]
        exact good _ _ _ (by rw [List.length_set]; exact h12)
    exact gk _ fun cs x y h => good cs x y fun _ => h
theorem open_ok {ns : List Int} {Q E : MQ} (k : ∀ cs, Q (.ref 1) (pen cs 0 0 [])) : f__law_open [.sc (ns.map .int)] [] Q E := by
  simp only [f__law_open, open_body, getK, setK, Option.isSome_some, eqM_int, neM_int, kit_ii, kit_bi, kit_ni, kit_si, kit_ti, kit_li, kit_ib, kit_bb, kit_tt, kit_it, kit_bt, kit_nt, kit_st, kit_lt, atI0, atI1, atI2, ixN30, ixN31, ixN32, mFn, startM, mSeq, mIf, mAsg, mRet, mRetN, mDrop, mNext, gN, gT, gsCons, gsNil, gIx, mVar, mInt, mBl, mNon, mStr, mC, mOp1, mOp2, int2, plusM, addM, mulM2, negM, isM, isNotM, isNoneM, tV, tNo, tAn, Mini.tOr, mAnd, mOr, mNot, Mini.notM, Bool.not_false, Bool.not_true, Bool.false_eq_true, if_false, if_true, reduceIte, mIfE, aNil, aCons, mTup, mLst, mLstC, mSl, slM, pNo, pAt, mB, mCall, lenM, listM, listMC, tupleM, intM, boolM, ixM, ixV, seqOf, lstOf, Mini.cellOf, mPar, mPar3, mLc, mLcC, mFor, iSeq, Mini.iRng1, Mini.iRng2, Mini.iEnum, Mini.iZip, mIsi, isiM, tyM, mMt, mMt0, appendM, extendM, popM, catF, catF.lstM, mChain, tAll, wipeM, mdK, Prod.mk.injEq, and_assoc, List.map_cons, List.map_nil, List.length_cons, List.length_nil, List.replicate, List.cons_append, List.nil_append, List.getElem?_cons_zero, List.getElem?_cons_succ, List.set_cons_zero, List.set_cons_succ, Option.some.injEq, exists_eq_left', exists_eq_left, true_and, and_true, List.cons.injEq, MV.int.injEq, MV.bl.injEq, MV.tup.injEq, MV.fl.injEq, MV.str.injEq, MV.ref.injEq, Option.bind_some, exists_and_left, exists_const, Nat.sub_self, Nat.reduceSub, Nat.reduceAdd, List.append_nil, List.nil_append, List.length_map, Nat.add_zero, Nat.zero_add]
  rw [cut_ints, cut_ints]
  refine open_loop (fun h => trivial) _ 0 _ none none (fun hne => ?_) fun cs x y => ?_
  · have hn : 12 < ns.length := by
      rcases Nat.lt_or_ge 12 ns.length with h | h
      · exact h
      · refine absurd ?_ hne
        unfold cutM
        have : HT.sIx ns.length 0 (some (12 : Int)) = ns.length := by
          have := HT.sIx_nat ns.length 0 12
          rw [show ((12 : Nat) : Int) = 12 from rfl] at this
          rw [this]; omega
        rw [this, List.drop_length, List.take_nil]
    unfold cutM
    have e1 : HT.sIx ns.length ns.length (some (12 : Int)) = 12 := by
      have := HT.sIx_nat ns.length ns.length 12
      rw [show ((12 : Nat) : Int) = 12 from rfl] at this
      rw [this]; omega
    rw [e1, HT.sIx_none, List.drop_zero, List.length_take]
    omega
  · simp only [getK, setK, Option.isSome_some, eqM_int, neM_int, kit_ii, kit_bi, kit_ni, kit_si, kit_ti, kit_li, kit_ib, kit_bb, kit_tt, kit_it, kit_bt, kit_nt, kit_st, kit_lt, atI0, atI1, atI2, ixN30, ixN31, ixN32, mFn, startM, mSeq, mIf, mAsg, mRet, mRetN, mDrop, mNext, gN, gT, gsCons, gsNil, gIx, mVar, mInt, mBl, mNon, mStr, mC, mOp1, mOp2, int2, plusM, addM, mulM2, negM, isM, isNotM, isNoneM, tV, tNo, tAn, Mini.tOr, mAnd, mOr, mNot, Mini.notM, Bool.not_false, Bool.not_true, Bool.false_eq_true, if_false, if_true, reduceIte, mIfE, aNil, aCons, mTup, mLst, mLstC, mSl, slM, pNo, pAt, mB, mCall, lenM, listM, listMC, tupleM, intM, boolM, ixM, ixV, seqOf, lstOf, Mini.cellOf, mPar, mPar3, mLc, mLcC, mFor, iSeq, Mini.iRng1, Mini.iRng2, Mini.iEnum, Mini.iZip, mIsi, isiM, tyM, mMt, mMt0, appendM, extendM, popM, catF, catF.lstM, mChain, tAll, wipeM, mdK, Prod.mk.injEq, and_assoc, List.map_cons, List.map_nil, List.length_cons, List.length_nil, List.replicate, List.cons_append, List.nil_append, List.getElem?_cons_zero, List.getElem?_cons_succ, List.set_cons_zero, List.set_cons_succ, Option.some.injEq, exists_eq_left', exists_eq_left, true_and, and_true, List.cons.injEq, MV.int.injEq, MV.bl.injEq, MV.tup.injEq, MV.fl.injEq, MV.str.injEq, MV.ref.injEq, Option.bind_some, exists_and_left, exists_const, Nat.sub_self, Nat.reduceSub, Nat.reduceAdd, List.append_nil, List.nil_append, List.length_map, Nat.add_zero, Nat.zero_add]
    exact ⟨smallLine (by decide), k cs⟩
def mb : MS := (mDrop (mMt extendM (mVar 1) (aCons (mLc (iRng1 (aCons (mVar 3) aNil)) (gN 4) tAll (mTup (aCons (mVar 2) (aCons (mVar 4) aNil))) [4]) aNil)))
theorem members_body : b__law_all_members =
    (mSeq (mAsg (mLstC aNil) (gN 1))
    (mSeq (mFor (iEnum (aCons (mVar 0) aNil)) (gT (gsCons (gN 2) (gsCons (gN 3) gsNil)) 2) mb)
    (mRet (mVar 1)))) := rfl

def pr2 (p : Int × Int) : MV := .tup [.int p.1, .int p.2]
def bd2 (p : Int × Int) : Prop := (0 ≤ p.1 ∧ p.1 ≤ 100) ∧ (0 ≤ p.2 ∧ p.2 ≤ 100)
def mrow (k : Nat) (s : Int) : List (Int × Int) := (List.range s.toNat).map fun i : Nat => ((k : Int), (i : Int))
def mrows : Nat → List Int → List (Int × Int)
  | _, [] => []
  | k, s :: ss => mrow k s ++ mrows (k + 1) ss
theorem rng_mrow {q : Nat} {s : Int} : (rng 0 s).filterMap (fun x => some (pr2 ((q : Int), toI x))) = (mrow q s).map pr2 := by
  unfold rng mrow
  rw [List.filterMap_map, List.map_map, ← List.filterMap_eq_map]
  simp only [Int.sub_zero]
  refine fm_congr fun i _ => ?_
  show some (pr2 ((q : Int), (0 + (i : Int)))) = some (pr2 ((q : Int), (i : Int)))
  rw [Int.zero_add]
theorem mrow_len {k : Nat} {s : Int} : (mrow k s).length = s.toNat := by unfold mrow; rw [List.length_map, List.length_range]
theorem mrows_bd : ∀ (ss : List Int) (k : Nat), (∀ s ∈ ss, 1 ≤ s ∧ s ≤ 4) → k + ss.length ≤ 100 → (∀ p ∈ mrows k ss, bd2 p) ∧ (mrows k ss).length ≤ 4 * ss.length
  | [], _, _, _ => ⟨fun p hp => by simp [mrows] at hp, by simp [mrows]⟩
  | s :: ss, k, h, hk => by
    rw [List.length_cons] at hk
    have hs := h s List.mem_cons_self
    obtain ⟨a, b⟩ := mrows_bd ss (k + 1) (fun t ht => h t (List.mem_cons_of_mem _ ht)) (by omega)
    refine ⟨fun p hp => ?_, ?_⟩
    · rw [mrows] at hp
      rcases List.mem_append.mp hp with hp | hp
      · unfold mrow at hp
        obtain ⟨i, hi, rfl⟩ := List.mem_map.mp hp
        have := List.mem_range.mp hi
        exact ⟨⟨by show (0 : Int) ≤ (k : Int); omega, by show (k : Int) ≤ 100; omega⟩, ⟨by show (0 : Int) ≤ (i : Int); omega, by show (i : Int) ≤ 100; omega⟩⟩
      · exact a p hp
    · rw [mrows, List.length_append, mrow_len, List.length_cons]
      omega
theorem members_loop {h : MHp} {D : MD} {p z : Option MV} : ∀ (ss : List Int) (k : Nat) (fs : List (Int × Int)) (x y : Option MV), fs.length + 10 * ss.length ≤ 1000 → (∀ s ∈ ss, 1 ≤ s ∧ s ≤ 4) →
    (∀ x y, D.nx [p, some (.ref h.length), x, y, z] (h ++ [.lst ((fs ++ mrows k ss).map pr2)])) →
    forM (fun _ => True) (gT (gsCons (gN 2) (gsCons (gN 3) gsNil)) 2) mb (enumK k (ss.map .int)) [p, some (.ref h.length), x, y, z] (h ++ [.lst (fs.map pr2)]) D
  | [], k, fs, x, y, _, _, hn => by
    have := hn x y
    rw [mrows, List.append_nil] at this
    exact ⟨trivial, this⟩
  | s :: ss, k, fs, x, y, hl, hs, hn => by
    have ih := members_loop (h := h) (D := D) (p := p) (z := z) ss (k + 1) (fs ++ mrow k s)
    have hs1 := hs s List.mem_cons_self
    have hr := mrow_len (k := k) (s := s)
    rw [List.length_cons] at hl
    have good : ∀ x y, forM (fun _ => True) (gT (gsCons (gN 2) (gsCons (gN 3) gsNil)) 2) mb (enumK (k + 1) (ss.map .int)) [p, some (.ref h.length), x, y, z] (h ++ [.lst ((fs ++ mrow k s).map pr2)]) D := fun x y => by
      refine ih x y (by rw [List.length_append]; omega) (fun t ht => hs t (List.mem_cons_of_mem _ ht)) fun x y => ?_
      have := hn x y
      rw [mrows, ← List.append_assoc] at this
      exact this
    clear ih hn
    have e : enumK k ((s :: ss).map .int) = .tup [.int (k : Nat), .int s] :: enumK (k + 1) (ss.map .int) := by
      unfold enumK
      rw [List.map_cons, List.zipIdx_cons, List.map_cons]
    rw [e]
    refine ⟨trivial, ?_⟩
    have gk : ∀ K : MSt → MHp → Prop, (∀ x y, K [p, some (.ref h.length), x, y, z] (h ++ [.lst ((fs ++ mrow k s).map pr2)])) → gT (gsCons (gN 2) (gsCons (gN 3) gsNil)) 2 (.tup [.int (k : Nat), .int s]) [p, some (.ref h.length), x, y, z] (h ++ [.lst (fs.map pr2)]) (fun s1 h1 => mb s1 h1 { D with nx := K, ct := K, bk := D.nx }) (fun e h' => D.ex e [p, some (.ref h.length), x, y, z] h') := by
      clear good
      intro K good
      simp only [mb, getK, setK, Option.isSome_some, eqM_int, neM_int, kit_ii, kit_bi, kit_ni, kit_si, kit_ti, kit_li, kit_ib, kit_bb, kit_tt, kit_it, kit_bt, kit_nt, kit_st, kit_lt, atI0, atI1, atI2, ixN30, ixN31, ixN32, mFn, startM, mSeq, mIf, mAsg, mRet, mRetN, mDrop, mNext, gN, gT, gsCons, gsNil, gIx, mVar, mInt, mBl, mNon, mStr, mC, mOp1, mOp2, int2, plusM, addM, mulM2, negM, isM, isNotM, isNoneM, tV, tNo, tAn, Mini.tOr, mAnd, mOr, mNot, Mini.notM, Bool.not_false, Bool.not_true, Bool.false_eq_true, if_false, if_true, reduceIte, mIfE, aNil, aCons, mTup, mLst, mLstC, mSl, slM, pNo, pAt, mB, mCall, lenM, listM, listMC, tupleM, intM, boolM, ixM, ixV, seqOf, lstOf, Mini.cellOf, mPar, mPar3, mLc, mLcC, mFor, iSeq, Mini.iRng1, Mini.iRng2, Mini.iEnum, Mini.iZip, mIsi, isiM, tyM, mMt, mMt0, appendM, extendM, popM, catF, catF.lstM, mChain, tAll, wipeM, mdK, Prod.mk.injEq, and_assoc, List.map_cons, List.map_nil, List.length_cons, List.length_nil, List.replicate, List.cons_append, List.nil_append, List.getElem?_cons_zero, List.getElem?_cons_succ, List.set_cons_zero, List.set_cons_succ, Option.some.injEq, exists_eq_left', exists_eq_left, true_and, and_true, List.cons.injEq, MV.int.injEq, MV.bl.injEq, MV.tup.injEq, MV.fl.injEq, MV.str.injEq, MV.ref.injEq, Option.bind_some, exists_and_left, exists_const, Nat.sub_self, Nat.reduceSub, Nat.reduceAdd, List.append_nil, List.nil_append, List.length_map, Nat.add_zero, Nat.zero_add]
      refine ⟨by omega, by omega, ?_⟩
      refine comp_pure (f := fun x => some (pr2 ((k : Int), toI x))) trivial _ [] ?_ (fun x hx' acc K ha hk => ?_) ?_
      · unfold rng
        rw [sizeLine_eq, List.length_map, List.length_range, List.length_nil]
        omega
      · unfold rng at hx'
        obtain ⟨i, _, rfl⟩ := List.mem_map.mp hx'
        simp only [tAll, getK, setK, Option.isSome_some, eqM_int, neM_int, kit_ii, kit_bi, kit_ni, kit_si, kit_ti, kit_li, kit_ib, kit_bb, kit_tt, kit_it, kit_bt, kit_nt, kit_st, kit_lt, atI0, atI1, atI2, ixN30, ixN31, ixN32, mFn, startM, mSeq, mIf, mAsg, mRet, mRetN, mDrop, mNext, gN, gT, gsCons, gsNil, gIx, mVar, mInt, mBl, mNon, mStr, mC, mOp1, mOp2, int2, plusM, addM, mulM2, negM, isM, isNotM, isNoneM, tV, tNo, tAn, Mini.tOr, mAnd, mOr, mNot, Mini.notM, Bool.not_false, Bool.not_true, Bool.false_eq_true, if_false, if_true, reduceIte, mIfE, aNil, aCons, mTup, mLst, mLstC, mSl, slM, pNo, pAt, mB, mCall, lenM, listM, listMC, tupleM, intM, boolM, ixM, ixV, seqOf, lstOf, Mini.cellOf, mPar, mPar3, mLc, mLcC, mFor, iSeq, Mini.iRng1, Mini.iRng2, Mini.iEnum, Mini.iZip, mIsi, isiM, tyM, mMt, mMt0, appendM, extendM, popM, catF, catF.lstM, mChain, tAll, wipeM, mdK, Prod.mk.injEq, and_assoc, List.map_cons, List.map_nil, List.length_cons, List.length_nil, List.replicate, List.cons_append, List.nil_append, List.getElem?_cons_zero, List.getElem?_cons_succ, List.set_cons_zero, List.set_cons_succ, Option.some.injEq, exists_eq_left', exists_eq_left, true_and, and_true, List.cons.injEq, MV.int.injEq, MV.bl.injEq, MV.tup.injEq, MV.fl.injEq, MV.str.injEq, MV.ref.injEq, Option.bind_some, exists_and_left, exists_const, Nat.sub_self, Nat.reduceSub, Nat.reduceAdd, List.append_nil, List.nil_append, List.length_map, Nat.add_zero, Nat.zero_add]
        exact ⟨smallLine (by decide), ha, hk⟩
      · rw [List.nil_append, rng_mrow]
        refine ⟨h.length, fs.map pr2, by rw [getK], _, .inl rfl, ?_, ?_⟩
        · rw [sizeLine_eq]
          simp only [List.length_map, hr]
          omega
        · rw [setK]
          have := good (some (.int k)) (some (.int s))
          rw [List.map_append] at this
          exact this
    exact gk _ good
theorem pr_sok (ps : List (Int × Int)) : sokAll (ps.map pr2) = true := sokAll_iff.mpr fun x hx => by
  obtain ⟨p, _, rfl⟩ := List.mem_map.mp hx
  simp [pr2, MV.sok, sokAll]
theorem members_ok {ss : List Int} (hl : ss.length ≤ 4) (hs : ∀ s ∈ ss, 1 ≤ s ∧ s ≤ 4) {h : MHp} (hh : Hh h) {Q E : MQ} (k : Q (.fl ((mrows 0 ss).map pr2)) h) : f__law_all_members [.tup (ss.map .int)] h Q E := by
  simp only [f__law_all_members, members_body, getK, setK, Option.isSome_some, eqM_int, neM_int, kit_ii, kit_bi, kit_ni, kit_si, kit_ti, kit_li, kit_ib, kit_bb, kit_tt, kit_it, kit_bt, kit_nt, kit_st, kit_lt, atI0, atI1, atI2, ixN30, ixN31, ixN32, mFn, startM, mSeq, mIf, mAsg, mRet, mRetN, mDrop, mNext, gN, gT, gsCons, gsNil, gIx, mVar, mInt, mBl, mNon, mStr, mC, mOp1, mOp2, int2, plusM, addM, mulM2, negM, isM, isNotM, isNoneM, tV, tNo, tAn, Mini.tOr, mAnd, mOr, mNot, Mini.notM, Bool.not_false, Bool.not_true, Bool.false_eq_true, if_false, if_true, reduceIte, mIfE, aNil, aCons, mTup, mLst, mLstC, mSl, slM, pNo, pAt, mB, mCall, lenM, listM, listMC, tupleM, intM, boolM, ixM, ixV, seqOf, lstOf, Mini.cellOf, mPar, mPar3, mLc, mLcC, mFor, iSeq, Mini.iRng1, Mini.iRng2, Mini.iEnum, Mini.iZip, mIsi, isiM, tyM, mMt, mMt0, appendM, extendM, popM, catF, catF.lstM, mChain, tAll, wipeM, mdK, Prod.mk.injEq, and_assoc, List.map_cons, List.map_nil, List.length_cons, List.length_nil, List.replicate, List.cons_append, List.nil_append, List.getElem?_cons_zero, List.getElem?_cons_succ, List.set_cons_zero, List.set_cons_succ, Option.some.injEq, exists_eq_left', exists_eq_left, true_and, and_true, List.cons.injEq, MV.int.injEq, MV.bl.injEq, MV.tup.injEq, MV.fl.injEq, MV.str.injEq, MV.ref.injEq, Option.bind_some, exists_and_left, exists_const, Nat.sub_self, Nat.reduceSub, Nat.reduceAdd, List.append_nil, List.nil_append, List.length_map, Nat.add_zero, Nat.zero_add]
  refine ⟨smallLine (by decide), ?_⟩
  refine members_loop ss 0 [] none none (by simp; omega) hs fun x y => ?_
  simp only [getK, setK, Option.isSome_some, eqM_int, neM_int, kit_ii, kit_bi, kit_ni, kit_si, kit_ti, kit_li, kit_ib, kit_bb, kit_tt, kit_it, kit_bt, kit_nt, kit_st, kit_lt, atI0, atI1, atI2, ixN30, ixN31, ixN32, mFn, startM, mSeq, mIf, mAsg, mRet, mRetN, mDrop, mNext, gN, gT, gsCons, gsNil, gIx, mVar, mInt, mBl, mNon, mStr, mC, mOp1, mOp2, int2, plusM, addM, mulM2, negM, isM, isNotM, isNoneM, tV, tNo, tAn, Mini.tOr, mAnd, mOr, mNot, Mini.notM, Bool.not_false, Bool.not_true, Bool.false_eq_true, if_false, if_true, reduceIte, mIfE, aNil, aCons, mTup, mLst, mLstC, mSl, slM, pNo, pAt, mB, mCall, lenM, listM, listMC, tupleM, intM, boolM, ixM, ixV, seqOf, lstOf, Mini.cellOf, mPar, mPar3, mLc, mLcC, mFor, iSeq, Mini.iRng1, Mini.iRng2, Mini.iEnum, Mini.iZip, mIsi, isiM, tyM, mMt, mMt0, appendM, extendM, popM, catF, catF.lstM, mChain, tAll, wipeM, mdK, Prod.mk.injEq, and_assoc, List.map_cons, List.map_nil, List.length_cons, List.length_nil, List.replicate, List.cons_append, List.nil_append, List.getElem?_cons_zero, List.getElem?_cons_succ, List.set_cons_zero, List.set_cons_succ, Option.some.injEq, exists_eq_left', exists_eq_left, true_and, and_true, List.cons.injEq, MV.int.injEq, MV.bl.injEq, MV.tup.injEq, MV.fl.injEq, MV.str.injEq, MV.ref.injEq, Option.bind_some, exists_and_left, exists_const, Nat.sub_self, Nat.reduceSub, Nat.reduceAdd, List.append_nil, List.nil_append, List.length_map, Nat.add_zero, Nat.zero_add]
  exact mdF_new rfl hh (Nat.le_refl _) getK (pr_sok _) k
end Lw
namespace Lw
open PySem PySem.Spec PyProof.Rows L2 Mini PySem.W
/-- nothing, or a wait within bounds -/
def WN (v : MV) : Prop := v = .non ∨ ∃ p, v = wv p ∧ small p
theorem mrows_ne {ss : List Int} (h0 : ss ≠ []) (hs : ∀ s ∈ ss, 1 ≤ s ∧ s ≤ 4) : mrows 0 ss ≠ [] := by
  cases ss with
  | nil => exact absurd rfl h0
  | cons s ss =>
    intro e
    have h1 := congrArg List.length e
    rw [mrows, List.length_append, mrow_len, List.length_nil] at h1
    have := (hs s List.mem_cons_self).1
    omega
theorem pr_all {ps : List (Int × Int)} : ∀ {zs : List MV}, (∀ z ∈ zs, z ∈ ps.map pr2) → ∃ qs : List (Int × Int), zs = qs.map pr2 ∧ ∀ q ∈ qs, q ∈ ps
  | [], _ => ⟨[], rfl, fun _ h => nomatch h⟩
  | z :: zs, h => by
    obtain ⟨qs, e, hq⟩ := pr_all fun y hy => h y (List.mem_cons_of_mem _ hy)
    obtain ⟨p, hp, rfl⟩ := List.mem_map.mp (h z List.mem_cons_self)
    refine ⟨p :: qs, by rw [e] <;> rfl, fun q hq' => ?_⟩
    rcases List.mem_cons.mp hq' with e | hq'
    · rw [e]; exact hp
    · exact hq q hq'
theorem pr_ok (ps : List (Int × Int)) : (MV.fl (ps.map pr2)).ok = true := by
  have e1 : (MV.fl (ps.map pr2)).sok = true := by simp only [MV.sok]; exact pr_sok ps
  have e2 : depAll (ps.map pr2) ≤ 1 := by
    induction ps with
    | nil => simp [depAll]
    | cons p ps ih =>
      have := ih (by simp only [MV.sok]; exact pr_sok ps)
      simp only [List.map_cons, depAll]
      have e : (pr2 p).dep = 1 := by simp [pr2, MV.dep, depAll]
      omega
  have e3 : (MV.fl (ps.map pr2)).dep ≤ 60 := by simp only [MV.dep]; omega
  unfold MV.ok
  rw [e1, decide_eq_true e3] <;> rfl
theorem eqF_nil {ps : List (Int × Int)} {h : MHp} {Q : MQ} (k : Q (.bl ps.isEmpty) h) : eqM (.fl (ps.map pr2)) (.fl []) h Q := by
  refine .inr ⟨pr_ok ps, show (MV.fl []).ok = true from by decide +kernel, ?_⟩
  have : (der h (.fl (ps.map pr2))).eqv (der h (.fl [])) = ps.isEmpty := by
    show (MV.fl (ps.map pr2)).eqv (.fl []) = _
    cases ps <;> simp [MV.eqv, eqvAll]
  rw [this]
  exact k
theorem drawn_wait_ok {cs : List Int} {a pv : Int} {t : MHp} {ss : List Int} (ht : TOk t) (h0 : ss ≠ []) (hl : ss.length ≤ 4) (hs : ∀ s ∈ ss, 1 ≤ s ∧ s ≤ 4) (ha : 0 ≤ a) (hb : a + 3 < 2 ^ 30) {Q E : MQ}
    (k : ∀ v a' v', WN v → a ≤ a' → a' ≤ a + 3 → Q v (pen cs a' v' t)) : f__law_drawn_wait [.ref 1, .tup (ss.map .int)] (pen cs a pv t) Q E := by
  obtain ⟨mb1, mb2⟩ := mrows_bd ss 0 hs (by omega)
  simp only [f__law_drawn_wait, b__law_drawn_wait, getK, setK, Option.isSome_some, eqM_int, neM_int, kit_ii, kit_bi, kit_ni, kit_si, kit_ti, kit_li, kit_ib, kit_bb, kit_tt, kit_it, kit_bt, kit_nt, kit_st, kit_lt, atI0, atI1, atI2, ixN30, ixN31, ixN32, mFn, startM, mSeq, mIf, mAsg, mRet, mRetN, mDrop, mNext, gN, gT, gsCons, gsNil, gIx, mVar, mInt, mBl, mNon, mStr, mC, mOp1, mOp2, int2, plusM, addM, mulM2, negM, isM, isNotM, isNoneM, tV, tNo, tAn, Mini.tOr, mAnd, mOr, mNot, Mini.notM, Bool.not_false, Bool.not_true, Bool.false_eq_true, if_false, if_true, reduceIte, mIfE, aNil, aCons, mTup, mLst, mLstC, mSl, slM, pNo, pAt, mB, mCall, lenM, listM, listMC, tupleM, intM, boolM, ixM, ixV, seqOf, lstOf, Mini.cellOf, mPar, mPar3, mLc, mLcC, mFor, iSeq, Mini.iRng1, Mini.iRng2, Mini.iEnum, Mini.iZip, mIsi, isiM, tyM, mMt, mMt0, appendM, extendM, popM, catF, catF.lstM, mChain, tAll, wipeM, mdK, Prod.mk.injEq, and_assoc, List.map_cons, List.map_nil, List.length_cons, List.length_nil, List.replicate, List.cons_append, List.nil_append, List.getElem?_cons_zero, List.getElem?_cons_succ, List.set_cons_zero, List.set_cons_succ, Option.some.injEq, exists_eq_left', exists_eq_left, true_and, and_true, List.cons.injEq, MV.int.injEq, MV.bl.injEq, MV.tup.injEq, MV.fl.injEq, MV.str.injEq, MV.ref.injEq, Option.bind_some, exists_and_left, exists_const, Nat.sub_self, Nat.reduceSub, Nat.reduceAdd, List.append_nil, List.nil_append, List.length_map, Nat.add_zero, Nat.zero_add]
  refine members_ok hl hs (pen_Hh ht cs a pv) ?_
  refine one_ok ht ha (by omega) (fun x hx => sokAll_iff.mp (pr_sok _) x hx) (by simpa using mrows_ne h0 hs) (by rw [List.length_map]; omega) fun x a1 v1 hx h1 h2 => ?_
  obtain ⟨p, hp, rfl⟩ := List.mem_map.mp hx
  have bp := mb1 p hp
  simp only [getK, setK, Option.isSome_some, eqM_int, neM_int, kit_ii, kit_bi, kit_ni, kit_si, kit_ti, kit_li, kit_ib, kit_bb, kit_tt, kit_it, kit_bt, kit_nt, kit_st, kit_lt, atI0, atI1, atI2, ixN30, ixN31, ixN32, mFn, startM, mSeq, mIf, mAsg, mRet, mRetN, mDrop, mNext, gN, gT, gsCons, gsNil, gIx, mVar, mInt, mBl, mNon, mStr, mC, mOp1, mOp2, int2, plusM, addM, mulM2, negM, isM, isNotM, isNoneM, tV, tNo, tAn, Mini.tOr, mAnd, mOr, mNot, Mini.notM, Bool.not_false, Bool.not_true, Bool.false_eq_true, if_false, if_true, reduceIte, mIfE, aNil, aCons, mTup, mLst, mLstC, mSl, slM, pNo, pAt, mB, mCall, lenM, listM, listMC, tupleM, intM, boolM, ixM, ixV, seqOf, lstOf, Mini.cellOf, mPar, mPar3, mLc, mLcC, mFor, iSeq, Mini.iRng1, Mini.iRng2, Mini.iEnum, Mini.iZip, mIsi, isiM, tyM, mMt, mMt0, appendM, extendM, popM, catF, catF.lstM, mChain, tAll, wipeM, mdK, Prod.mk.injEq, and_assoc, List.map_cons, List.map_nil, List.length_cons, List.length_nil, List.replicate, List.cons_append, List.nil_append, List.getElem?_cons_zero, List.getElem?_cons_succ, List.set_cons_zero, List.set_cons_succ, Option.some.injEq, exists_eq_left', exists_eq_left, true_and, and_true, List.cons.injEq, MV.int.injEq, MV.bl.injEq, MV.tup.injEq, MV.fl.injEq, MV.str.injEq, MV.ref.injEq, Option.bind_some, exists_and_left, exists_const, Nat.sub_self, Nat.reduceSub, Nat.reduceAdd, List.append_nil, List.nil_append, List.length_map, Nat.add_zero, Nat.zero_add]
  refine comp_pure (f := fun x => match x with | .tup (.int i :: _) => (if i == p.1 then none else some x) | _ => none) trivial ((mrows 0 ss).map pr2) [] (by rw [sizeLine_eq, List.length_map, List.length_nil]; omega) (fun y hy acc K ha hk => ?_) ?_
  · obtain ⟨q, hq, rfl⟩ := List.mem_map.mp hy
    simp only [pr2, getK, setK, Option.isSome_some, eqM_int, neM_int, kit_ii, kit_bi, kit_ni, kit_si, kit_ti, kit_li, kit_ib, kit_bb, kit_tt, kit_it, kit_bt, kit_nt, kit_st, kit_lt, atI0, atI1, atI2, ixN30, ixN31, ixN32, mFn, startM, mSeq, mIf, mAsg, mRet, mRetN, mDrop, mNext, gN, gT, gsCons, gsNil, gIx, mVar, mInt, mBl, mNon, mStr, mC, mOp1, mOp2, int2, plusM, addM, mulM2, negM, isM, isNotM, isNoneM, tV, tNo, tAn, Mini.tOr, mAnd, mOr, mNot, Mini.notM, Bool.not_false, Bool.not_true, Bool.false_eq_true, if_false, if_true, reduceIte, mIfE, aNil, aCons, mTup, mLst, mLstC, mSl, slM, pNo, pAt, mB, mCall, lenM, listM, listMC, tupleM, intM, boolM, ixM, ixV, seqOf, lstOf, Mini.cellOf, mPar, mPar3, mLc, mLcC, mFor, iSeq, Mini.iRng1, Mini.iRng2, Mini.iEnum, Mini.iZip, mIsi, isiM, tyM, mMt, mMt0, appendM, extendM, popM, catF, catF.lstM, mChain, tAll, wipeM, mdK, Prod.mk.injEq, and_assoc, List.map_cons, List.map_nil, List.length_cons, List.length_nil, List.replicate, List.cons_append, List.nil_append, List.getElem?_cons_zero, List.getElem?_cons_succ, List.set_cons_zero, List.set_cons_succ, Option.some.injEq, exists_eq_left', exists_eq_left, true_and, and_true, List.cons.injEq, MV.int.injEq, MV.bl.injEq, MV.tup.injEq, MV.fl.injEq, MV.str.injEq, MV.ref.injEq, Option.bind_some, exists_and_left, exists_const, Nat.sub_self, Nat.reduceSub, Nat.reduceAdd, List.append_nil, List.nil_append, List.length_map, Nat.add_zero, Nat.zero_add]
    simp only [pr2] at hk
    cases e : (q.1 == p.1) with
    | true =>
      simp only [getK, setK, Option.isSome_some, eqM_int, neM_int, kit_ii, kit_bi, kit_ni, kit_si, kit_ti, kit_li, kit_ib, kit_bb, kit_tt, kit_it, kit_bt, kit_nt, kit_st, kit_lt, atI0, atI1, atI2, ixN30, ixN31, ixN32, mFn, startM, mSeq, mIf, mAsg, mRet, mRetN, mDrop, mNext, gN, gT, gsCons, gsNil, gIx, mVar, mInt, mBl, mNon, mStr, mC, mOp1, mOp2, int2, plusM, addM, mulM2, negM, isM, isNotM, isNoneM, tV, tNo, tAn, Mini.tOr, mAnd, mOr, mNot, Mini.notM, Bool.not_false, Bool.not_true, Bool.false_eq_true, if_false, if_true, reduceIte, mIfE, aNil, aCons, mTup, mLst, mLstC, mSl, slM, pNo, pAt, mB, mCall, lenM, listM, listMC, tupleM, intM, boolM, ixM, ixV, seqOf, lstOf, Mini.cellOf, mPar, mPar3, mLc, mLcC, mFor, iSeq, Mini.iRng1, Mini.iRng2, Mini.iEnum, Mini.iZip, mIsi, isiM, tyM, mMt, mMt0, appendM, extendM, popM, catF, catF.lstM, mChain, tAll, wipeM, mdK, Prod.mk.injEq, and_assoc, List.map_cons, List.map_nil, List.length_cons, List.length_nil, List.replicate, List.cons_append, List.nil_append, List.getElem?_cons_zero, List.getElem?_cons_succ, List.set_cons_zero, List.set_cons_succ, Option.some.injEq, exists_eq_left', exists_eq_left, true_and, and_true, List.cons.injEq, MV.int.injEq, MV.bl.injEq, MV.tup.injEq, MV.fl.injEq, MV.str.injEq, MV.ref.injEq, Option.bind_some, exists_and_left, exists_const, Nat.sub_self, Nat.reduceSub, Nat.reduceAdd, List.append_nil, List.nil_append, List.length_map, Nat.add_zero, Nat.zero_add]
      simpa [e] using hk
    | false =>
      simp only [getK, setK, Option.isSome_some, eqM_int, neM_int, kit_ii, kit_bi, kit_ni, kit_si, kit_ti, kit_li, kit_ib, kit_bb, kit_tt, kit_it, kit_bt, kit_nt, kit_st, kit_lt, atI0, atI1, atI2, ixN30, ixN31, ixN32, mFn, startM, mSeq, mIf, mAsg, mRet, mRetN, mDrop, mNext, gN, gT, gsCons, gsNil, gIx, mVar, mInt, mBl, mNon, mStr, mC, mOp1, mOp2, int2, plusM, addM, mulM2, negM, isM, isNotM, isNoneM, tV, tNo, tAn, Mini.tOr, mAnd, mOr, mNot, Mini.notM, Bool.not_false, Bool.not_true, Bool.false_eq_true, if_false, if_true, reduceIte, mIfE, aNil, aCons, mTup, mLst, mLstC, mSl, slM, pNo, pAt, mB, mCall, lenM, listM, listMC, tupleM, intM, boolM, ixM, ixV, seqOf, lstOf, Mini.cellOf, mPar, mPar3, mLc, mLcC, mFor, iSeq, Mini.iRng1, Mini.iRng2, Mini.iEnum, Mini.iZip, mIsi, isiM, tyM, mMt, mMt0, appendM, extendM, popM, catF, catF.lstM, mChain, tAll, wipeM, mdK, Prod.mk.injEq, and_assoc, List.map_cons, List.map_nil, List.length_cons, List.length_nil, List.replicate, List.cons_append, List.nil_append, List.getElem?_cons_zero, List.getElem?_cons_succ, List.set_cons_zero, List.set_cons_succ, Option.some.injEq, exists_eq_left', exists_eq_left, true_and, and_true, List.cons.injEq, MV.int.injEq, MV.bl.injEq, MV.tup.injEq, MV.fl.injEq, MV.str.injEq, MV.ref.injEq, Option.bind_some, exists_and_left, exists_const, Nat.sub_self, Nat.reduceSub, Nat.reduceAdd, List.append_nil, List.nil_append, List.length_map, Nat.add_zero, Nat.zero_add]
      exact ⟨ha, by simpa [e] using hk⟩
  · rw [List.nil_append]
    obtain ⟨qs, eq, hq⟩ := pr_all (ps := mrows 0 ss) (zs := ((mrows 0 ss).map pr2).filterMap fun x => match x with | .tup (.int i :: _) => (if i == p.1 then none else some x) | _ => none) fun z hz => by
      obtain ⟨w, hw, e⟩ := List.mem_filterMap.mp hz
      obtain ⟨q, hq, rfl⟩ := List.mem_map.mp hw
      simp only [pr2] at e
      split at e
      · cases e
      · cases e; exact List.mem_map.mpr ⟨q, hq, rfl⟩
    rw [eq]
    have hql : qs.length ≤ 16 := by
      have := congrArg List.length eq
      have h2 := List.length_filterMap_le (fun x => match x with | .tup (.int i :: _) => (if i == p.1 then none else some x) | _ => none) ((mrows 0 ss).map pr2)
      rw [List.length_map] at this h2
      omega
    refine ⟨smallLine (by decide), eqF_nil ⟨_, rfl, ?_⟩⟩
    cases he : qs.isEmpty with
    | true =>
      simp only [getK, setK, Option.isSome_some, eqM_int, neM_int, kit_ii, kit_bi, kit_ni, kit_si, kit_ti, kit_li, kit_ib, kit_bb, kit_tt, kit_it, kit_bt, kit_nt, kit_st, kit_lt, atI0, atI1, atI2, ixN30, ixN31, ixN32, mFn, startM, mSeq, mIf, mAsg, mRet, mRetN, mDrop, mNext, gN, gT, gsCons, gsNil, gIx, mVar, mInt, mBl, mNon, mStr, mC, mOp1, mOp2, int2, plusM, addM, mulM2, negM, isM, isNotM, isNoneM, tV, tNo, tAn, Mini.tOr, mAnd, mOr, mNot, Mini.notM, Bool.not_false, Bool.not_true, Bool.false_eq_true, if_false, if_true, reduceIte, mIfE, aNil, aCons, mTup, mLst, mLstC, mSl, slM, pNo, pAt, mB, mCall, lenM, listM, listMC, tupleM, intM, boolM, ixM, ixV, seqOf, lstOf, Mini.cellOf, mPar, mPar3, mLc, mLcC, mFor, iSeq, Mini.iRng1, Mini.iRng2, Mini.iEnum, Mini.iZip, mIsi, isiM, tyM, mMt, mMt0, appendM, extendM, popM, catF, catF.lstM, mChain, tAll, wipeM, mdK, Prod.mk.injEq, and_assoc, List.map_cons, List.map_nil, List.length_cons, List.length_nil, List.replicate, List.cons_append, List.nil_append, List.getElem?_cons_zero, List.getElem?_cons_succ, List.set_cons_zero, List.set_cons_succ, Option.some.injEq, exists_eq_left', exists_eq_left, true_and, and_true, List.cons.injEq, MV.int.injEq, MV.bl.injEq, MV.tup.injEq, MV.fl.injEq, MV.str.injEq, MV.ref.injEq, Option.bind_some, exists_and_left, exists_const, Nat.sub_self, Nat.reduceSub, Nat.reduceAdd, List.append_nil, List.nil_append, List.length_map, Nat.add_zero, Nat.zero_add]
      exact pen_endS ht rfl rfl (k _ a1 v1 (.inl rfl) h1 (by omega))
    | false =>
      simp only [getK, setK, Option.isSome_some, eqM_int, neM_int, kit_ii, kit_bi, kit_ni, kit_si, kit_ti, kit_li, kit_ib, kit_bb, kit_tt, kit_it, kit_bt, kit_nt, kit_st, kit_lt, atI0, atI1, atI2, ixN30, ixN31, ixN32, mFn, startM, mSeq, mIf, mAsg, mRet, mRetN, mDrop, mNext, gN, gT, gsCons, gsNil, gIx, mVar, mInt, mBl, mNon, mStr, mC, mOp1, mOp2, int2, plusM, addM, mulM2, negM, isM, isNotM, isNoneM, tV, tNo, tAn, Mini.tOr, mAnd, mOr, mNot, Mini.notM, Bool.not_false, Bool.not_true, Bool.false_eq_true, if_false, if_true, reduceIte, mIfE, aNil, aCons, mTup, mLst, mLstC, mSl, slM, pNo, pAt, mB, mCall, lenM, listM, listMC, tupleM, intM, boolM, ixM, ixV, seqOf, lstOf, Mini.cellOf, mPar, mPar3, mLc, mLcC, mFor, iSeq, Mini.iRng1, Mini.iRng2, Mini.iEnum, Mini.iZip, mIsi, isiM, tyM, mMt, mMt0, appendM, extendM, popM, catF, catF.lstM, mChain, tAll, wipeM, mdK, Prod.mk.injEq, and_assoc, List.map_cons, List.map_nil, List.length_cons, List.length_nil, List.replicate, List.cons_append, List.nil_append, List.getElem?_cons_zero, List.getElem?_cons_succ, List.set_cons_zero, List.set_cons_succ, Option.some.injEq, exists_eq_left', exists_eq_left, true_and, and_true, List.cons.injEq, MV.int.injEq, MV.bl.injEq, MV.tup.injEq, MV.fl.injEq, MV.str.injEq, MV.ref.injEq, Option.bind_some, exists_and_left, exists_const, Nat.sub_self, Nat.reduceSub, Nat.reduceAdd, List.append_nil, List.nil_append, List.length_map, Nat.add_zero, Nat.zero_add]
      refine one_ok ht (by omega) (by omega) (fun x hx => sokAll_iff.mp (pr_sok _) x hx) (fun e => by
        have : qs = [] := by simpa using e
        rw [this] at he
        cases he) (by rw [List.length_map]; omega) fun x a2 v2 hx h3 h4 => ?_
      obtain ⟨q, hq', rfl⟩ := List.mem_map.mp hx
      have bq := mb1 q (hq q hq')
      refine ⟨smallLine (by decide), one_ok ht (by omega) (by omega) (fun x hx => ?_) (by simp) (by simp) fun x a3 v3 hx h5 h6 => ?_⟩
      · simp only [List.mem_cons, List.not_mem_nil, or_false] at hx
        rcases hx with rfl | rfl | rfl | rfl | rfl | rfl <;> rfl
      · have hd : ∃ d : Int, x = .int d ∧ 0 ≤ d ∧ d ≤ 3 := by
          simp only [List.mem_cons, List.not_mem_nil, or_false] at hx
          rcases hx with rfl | rfl | rfl | rfl | rfl | rfl <;> exact ⟨_, rfl, by decide, by decide⟩
        obtain ⟨d, rfl, d0, d1⟩ := hd
        refine ⟨smallLine (by decide), pen_endS (x := wv (p.1, p.2, q.1, q.2, d)) ht rfl (wv_sok _) (k _ a3 v3 (.inr ⟨_, rfl, small_of ⟨bp.1.1, by have := bp.1.2; omega⟩ ⟨bp.2.1, by have := bp.2.2; omega⟩ ⟨bq.1.1, by have := bq.1.2; omega⟩ ⟨bq.2.1, by have := bq.2.2; omega⟩ ⟨d0, by omega⟩⟩) (by omega) (by omega))⟩

def iv (v : MV) : Prop := ∃ i : Int, v = .int i ∧ 1 ≤ i ∧ i ≤ 4
theorem ivs {xs : List MV} : (∀ x ∈ xs, iv x) → ∃ ss : List Int, xs = ss.map .int ∧ ∀ s ∈ ss, 1 ≤ s ∧ s ≤ 4 := by
  induction xs with
  | nil => intro _; exact ⟨[], rfl, fun _ h => nomatch h⟩
  | cons x xs ih =>
    intro h
    obtain ⟨ss, e, hs⟩ := ih fun y hy => h y (List.mem_cons_of_mem _ hy)
    obtain ⟨i, rfl, h1⟩ := h x List.mem_cons_self
    refine ⟨i :: ss, by rw [e] <;> rfl, fun s hs' => ?_⟩
    rcases List.mem_cons.mp hs' with e | hs'
    · rw [e]; exact h1
    · exact hs s hs'
theorem sortOk_nil : SortOk [] := ⟨rfl, (fun d hd => nomatch hd), .inl (fun d hd => nomatch hd), (fun x hx => nomatch hx), Nat.zero_le _⟩
theorem drawn_plan_ok {cs : List Int} {a pv : Int} {t : MHp} (ht : TOk t) (ha : 0 ≤ a) (hb : a + 6 < 2 ^ 30) {Q E : MQ}
    (k : ∀ (ss : List Int) a' v', ss ≠ [] → ss.length ≤ 4 → (∀ s ∈ ss, 1 ≤ s ∧ s ≤ 4) → a ≤ a' → a' ≤ a + 6 → Q (.tup [.tup (ss.map .int), .tup []]) (pen cs a' v' t)) : f__law_drawn_plan [.ref 1, .int 0] (pen cs a pv t) Q E := by
  have six : ∀ x ∈ [MV.int 1, MV.int 2, MV.int 2, MV.int 3, MV.int 3, MV.int 4], iv x := fun x hx => by
    simp only [List.mem_cons, List.not_mem_nil, or_false] at hx
    rcases hx with rfl | rfl | rfl | rfl | rfl | rfl <;> exact ⟨_, rfl, by decide, by decide⟩
  have six2 : ∀ x ∈ [MV.int 1, MV.int 1, MV.int 2, MV.int 2, MV.int 3, MV.int 4], iv x := fun x hx => by
    simp only [List.mem_cons, List.not_mem_nil, or_false] at hx
    rcases hx with rfl | rfl | rfl | rfl | rfl | rfl <;> exact ⟨_, rfl, by decide, by decide⟩
  have ivsok : ∀ x, iv x → x.sok = true := fun x ⟨i, e, _⟩ => by rw [e] <;> rfl
  simp only [f__law_drawn_plan, b__law_drawn_plan, getK, setK, Option.isSome_some, eqM_int, neM_int, kit_ii, kit_bi, kit_ni, kit_si, kit_ti, kit_li, kit_ib, kit_bb, kit_tt, kit_it, kit_bt, kit_nt, kit_st, kit_lt, atI0, atI1, atI2, ixN30, ixN31, ixN32, mFn, startM, mSeq, mIf, mAsg, mRet, mRetN, mDrop, mNext, gN, gT, gsCons, gsNil, gIx, mVar, mInt, mBl, mNon, mStr, mC, mOp1, mOp2, int2, plusM, addM, mulM2, negM, isM, isNotM, isNoneM, tV, tNo, tAn, Mini.tOr, mAnd, mOr, mNot, Mini.notM, Bool.not_false, Bool.not_true, Bool.false_eq_true, if_false, if_true, reduceIte, mIfE, aNil, aCons, mTup, mLst, mLstC, mSl, slM, pNo, pAt, mB, mCall, lenM, listM, listMC, tupleM, intM, boolM, ixM, ixV, seqOf, lstOf, Mini.cellOf, mPar, mPar3, mLc, mLcC, mFor, iSeq, Mini.iRng1, Mini.iRng2, Mini.iEnum, Mini.iZip, mIsi, isiM, tyM, mMt, mMt0, appendM, extendM, popM, catF, catF.lstM, mChain, tAll, wipeM, mdK, Prod.mk.injEq, and_assoc, List.map_cons, List.map_nil, List.length_cons, List.length_nil, List.replicate, List.cons_append, List.nil_append, List.getElem?_cons_zero, List.getElem?_cons_succ, List.set_cons_zero, List.set_cons_succ, Option.some.injEq, exists_eq_left', exists_eq_left, true_and, and_true, List.cons.injEq, MV.int.injEq, MV.bl.injEq, MV.tup.injEq, MV.fl.injEq, MV.str.injEq, MV.ref.injEq, Option.bind_some, exists_and_left, exists_const, Nat.sub_self, Nat.reduceSub, Nat.reduceAdd, List.append_nil, List.nil_append, List.length_map, Nat.add_zero, Nat.zero_add]
  refine ⟨smallLine (by decide), one_ok ht ha (by omega) (fun x hx => ivsok x (six x hx)) (by simp) (by simp) fun x a1 v1 hx h1 h2 => ?_⟩
  obtain ⟨n, rfl, n1, n2⟩ := six x hx
  simp only [getK, setK, Option.isSome_some, eqM_int, neM_int, kit_ii, kit_bi, kit_ni, kit_si, kit_ti, kit_li, kit_ib, kit_bb, kit_tt, kit_it, kit_bt, kit_nt, kit_st, kit_lt, atI0, atI1, atI2, ixN30, ixN31, ixN32, mFn, startM, mSeq, mIf, mAsg, mRet, mRetN, mDrop, mNext, gN, gT, gsCons, gsNil, gIx, mVar, mInt, mBl, mNon, mStr, mC, mOp1, mOp2, int2, plusM, addM, mulM2, negM, isM, isNotM, isNoneM, tV, tNo, tAn, Mini.tOr, mAnd, mOr, mNot, Mini.notM, Bool.not_false, Bool.not_true, Bool.false_eq_true, if_false, if_true, reduceIte, mIfE, aNil, aCons, mTup, mLst, mLstC, mSl, slM, pNo, pAt, mB, mCall, lenM, listM, listMC, tupleM, intM, boolM, ixM, ixV, seqOf, lstOf, Mini.cellOf, mPar, mPar3, mLc, mLcC, mFor, iSeq, Mini.iRng1, Mini.iRng2, Mini.iEnum, Mini.iZip, mIsi, isiM, tyM, mMt, mMt0, appendM, extendM, popM, catF, catF.lstM, mChain, tAll, wipeM, mdK, Prod.mk.injEq, and_assoc, List.map_cons, List.map_nil, List.length_cons, List.length_nil, List.replicate, List.cons_append, List.nil_append, List.getElem?_cons_zero, List.getElem?_cons_succ, List.set_cons_zero, List.set_cons_succ, Option.some.injEq, exists_eq_left', exists_eq_left, true_and, and_true, List.cons.injEq, MV.int.injEq, MV.bl.injEq, MV.tup.injEq, MV.fl.injEq, MV.str.injEq, MV.ref.injEq, Option.bind_some, exists_and_left, exists_const, Nat.sub_self, Nat.reduceSub, Nat.reduceAdd, List.append_nil, List.nil_append, List.length_map, Nat.add_zero, Nat.zero_add]
  refine ⟨by omega, by omega, ?_⟩
  refine comp_ind (fun xs acc h => ∃ a' v', h = pen cs a' v' t ∧ (∀ x ∈ acc, iv x) ∧ acc.length + xs.length = n.toNat ∧ a1 ≤ a' ∧ a' ≤ a1 + acc.length) (fun _ _ _ _ => trivial) (fun acc h ⟨a2, v2, e, h3, h4, h5, h6⟩ => ?_) (fun x xs acc h K ⟨a2, v2, e, h3, h4, h5, h6⟩ hK => ?_) _ [] _ ⟨a1, v1, rfl, (fun x hx => by cases hx), (by unfold rng; rw [List.length_map, List.length_range, List.length_nil]; omega), Int.le_refl _, (by simp)⟩
  · subst e
    obtain ⟨ss, rfl, hs⟩ := ivs h3
    rw [List.length_map, List.length_nil] at h4
    simp only [getK, setK, Option.isSome_some, eqM_int, neM_int, kit_ii, kit_bi, kit_ni, kit_si, kit_ti, kit_li, kit_ib, kit_bb, kit_tt, kit_it, kit_bt, kit_nt, kit_st, kit_lt, atI0, atI1, atI2, ixN30, ixN31, ixN32, mFn, startM, mSeq, mIf, mAsg, mRet, mRetN, mDrop, mNext, gN, gT, gsCons, gsNil, gIx, mVar, mInt, mBl, mNon, mStr, mC, mOp1, mOp2, int2, plusM, addM, mulM2, negM, isM, isNotM, isNoneM, tV, tNo, tAn, Mini.tOr, mAnd, mOr, mNot, Mini.notM, Bool.not_false, Bool.not_true, Bool.false_eq_true, if_false, if_true, reduceIte, mIfE, aNil, aCons, mTup, mLst, mLstC, mSl, slM, pNo, pAt, mB, mCall, lenM, listM, listMC, tupleM, intM, boolM, ixM, ixV, seqOf, lstOf, Mini.cellOf, mPar, mPar3, mLc, mLcC, mFor, iSeq, Mini.iRng1, Mini.iRng2, Mini.iEnum, Mini.iZip, mIsi, isiM, tyM, mMt, mMt0, appendM, extendM, popM, catF, catF.lstM, mChain, tAll, wipeM, mdK, Prod.mk.injEq, and_assoc, List.map_cons, List.map_nil, List.length_cons, List.length_nil, List.replicate, List.cons_append, List.nil_append, List.getElem?_cons_zero, List.getElem?_cons_succ, List.set_cons_zero, List.set_cons_succ, Option.some.injEq, exists_eq_left', exists_eq_left, true_and, and_true, List.cons.injEq, MV.int.injEq, MV.bl.injEq, MV.tup.injEq, MV.fl.injEq, MV.str.injEq, MV.ref.injEq, Option.bind_some, exists_and_left, exists_const, Nat.sub_self, Nat.reduceSub, Nat.reduceAdd, List.append_nil, List.nil_append, List.length_map, Nat.add_zero, Nat.zero_add]
    have ht2 : TOk (t ++ [.lst []]) := tok_snoc ht rfl
    refine ⟨smallLine (by decide), take_ok (t := t ++ [.lst []]) ht2 (by omega) (by omega) (by decide) (by decide) fun r a3 v3 r0 r1 h7 h8 => ?_⟩
    have hr : r = 0 := by omega
    subst hr
    refine ⟨by decide, by decide, trivial, ?_⟩
    simp only [getK, setK, Option.isSome_some, eqM_int, neM_int, kit_ii, kit_bi, kit_ni, kit_si, kit_ti, kit_li, kit_ib, kit_bb, kit_tt, kit_it, kit_bt, kit_nt, kit_st, kit_lt, atI0, atI1, atI2, ixN30, ixN31, ixN32, mFn, startM, mSeq, mIf, mAsg, mRet, mRetN, mDrop, mNext, gN, gT, gsCons, gsNil, gIx, mVar, mInt, mBl, mNon, mStr, mC, mOp1, mOp2, int2, plusM, addM, mulM2, negM, isM, isNotM, isNoneM, tV, tNo, tAn, Mini.tOr, mAnd, mOr, mNot, Mini.notM, Bool.not_false, Bool.not_true, Bool.false_eq_true, if_false, if_true, reduceIte, mIfE, aNil, aCons, mTup, mLst, mLstC, mSl, slM, pNo, pAt, mB, mCall, lenM, listM, listMC, tupleM, intM, boolM, ixM, ixV, seqOf, lstOf, Mini.cellOf, mPar, mPar3, mLc, mLcC, mFor, iSeq, Mini.iRng1, Mini.iRng2, Mini.iEnum, Mini.iZip, mIsi, isiM, tyM, mMt, mMt0, appendM, extendM, popM, catF, catF.lstM, mChain, tAll, wipeM, mdK, Prod.mk.injEq, and_assoc, List.map_cons, List.map_nil, List.length_cons, List.length_nil, List.replicate, List.cons_append, List.nil_append, List.getElem?_cons_zero, List.getElem?_cons_succ, List.set_cons_zero, List.set_cons_succ, Option.some.injEq, exists_eq_left', exists_eq_left, true_and, and_true, List.cons.injEq, MV.int.injEq, MV.bl.injEq, MV.tup.injEq, MV.fl.injEq, MV.str.injEq, MV.ref.injEq, Option.bind_some, exists_and_left, exists_const, Nat.sub_self, Nat.reduceSub, Nat.reduceAdd, List.append_nil, List.nil_append, List.length_map, Nat.add_zero, Nat.zero_add]
    refine ⟨_, [], rfl, by show (match (pen cs a3 v3 t ++ [Cell.lst []])[(pen cs a3 v3 t).length]? with | some (.lst xs) => some xs | _ => none) = _; rw [getK], sortOk_nil, [], by rw [List.mergeSort_nil], smallLine (by decide), ?_⟩
    have hne : ss ≠ [] := fun e => by subst e; simp at h4; omega
    have hok := k ss a3 v3 hne (by simp at h4; omega) hs (by omega) (by rw [List.length_map] at h6; simp at h4; omega)
    exact mdF_sok (h := pen cs a3 v3 t) (u := [.lst []]) rfl (pen_Hh ht cs a3 v3) (by
      have := lo_ints 0 ss
      have e : sokAll (ss.map MV.int) = true := sokAll_iff.mpr fun x hx => by
        obtain ⟨i, _, rfl⟩ := List.mem_map.mp hx
        rfl
      simp [MV.sok, sokAll, e]) hok
  · subst e
    rw [List.length_cons] at h4
    simp only [tAll, getK, setK, Option.isSome_some, eqM_int, neM_int, kit_ii, kit_bi, kit_ni, kit_si, kit_ti, kit_li, kit_ib, kit_bb, kit_tt, kit_it, kit_bt, kit_nt, kit_st, kit_lt, atI0, atI1, atI2, ixN30, ixN31, ixN32, mFn, startM, mSeq, mIf, mAsg, mRet, mRetN, mDrop, mNext, gN, gT, gsCons, gsNil, gIx, mVar, mInt, mBl, mNon, mStr, mC, mOp1, mOp2, int2, plusM, addM, mulM2, negM, isM, isNotM, isNoneM, tV, tNo, tAn, Mini.tOr, mAnd, mOr, mNot, Mini.notM, Bool.not_false, Bool.not_true, Bool.false_eq_true, if_false, if_true, reduceIte, mIfE, aNil, aCons, mTup, mLst, mLstC, mSl, slM, pNo, pAt, mB, mCall, lenM, listM, listMC, tupleM, intM, boolM, ixM, ixV, seqOf, lstOf, Mini.cellOf, mPar, mPar3, mLc, mLcC, mFor, iSeq, Mini.iRng1, Mini.iRng2, Mini.iEnum, Mini.iZip, mIsi, isiM, tyM, mMt, mMt0, appendM, extendM, popM, catF, catF.lstM, mChain, tAll, wipeM, mdK, Prod.mk.injEq, and_assoc, List.map_cons, List.map_nil, List.length_cons, List.length_nil, List.replicate, List.cons_append, List.nil_append, List.getElem?_cons_zero, List.getElem?_cons_succ, List.set_cons_zero, List.set_cons_succ, Option.some.injEq, exists_eq_left', exists_eq_left, true_and, and_true, List.cons.injEq, MV.int.injEq, MV.bl.injEq, MV.tup.injEq, MV.fl.injEq, MV.str.injEq, MV.ref.injEq, Option.bind_some, exists_and_left, exists_const, Nat.sub_self, Nat.reduceSub, Nat.reduceAdd, List.append_nil, List.nil_append, List.length_map, Nat.add_zero, Nat.zero_add]
    refine ⟨smallLine (by decide), one_ok ht (by omega) (by omega) (fun x hx => ivsok x (six2 x hx)) (by simp) (by simp) fun y a3 v3 hy h7 h8 => ?_⟩
    refine ⟨smallLine (by omega), hK _ _ ⟨a3, v3, rfl, fun z hz => ?_, by rw [List.length_append, List.length_singleton]; omega, by omega, by rw [List.length_append, List.length_singleton]; omega⟩⟩
    rcases List.mem_append.mp hz with hz | hz
    · exact h3 z hz
    · rw [List.mem_singleton.mp hz]; exact six2 y hy
end Lw
namespace Lw
open PySem PySem.Spec PyProof.Rows L2 Mini PySem.W
def manyB : MS := (mAsg (mOp2 plusM (mVar 6) (mB tupleM (aCons (mLc (iRng1 (aCons (mInt 4) aNil)) (gN 14) tAll (mTup (aCons (mTup (aCons (mInt 0) (aCons (mVar 7) aNil))) (aCons (mTup (aCons (mInt 1) (aCons (mVar 7) aNil))) (aCons (mVar 14) aNil)))) [14]) aNil))) (gN 6))
def turnB : MS := (mSeq (mAsg (mOp2 ixM (mCall f__law_drawn_plan (aCons (mCall f__law_anew (aCons (mVar 1) aNil)) (aCons (mInt 0) aNil))) (mInt 0)) (gN 3))
    (mSeq (mAsg (mLc (iRng1 (aCons (mCall f__law_take (aCons (mVar 1) (aCons (mInt 14) aNil))) aNil)) (gN 10) tAll (mCall f__law_drawn_wait (aCons (mCall f__law_anew (aCons (mVar 1) aNil)) (aCons (mVar 3) aNil))) [10]) (gN 4))
    (mSeq (mAsg (mTup (aCons (mVar 3) (aCons (mB tupleM (aCons (mSl slM (mB sortSetM (aCons (mB setM (aCons (mLc (iSeq (mVar 4)) (gN 15) (tV (mOp2 isNotM (mVar 15) mNon)) (mVar 15) [15]) aNil)) aNil)) pNo (pAt (mInt 12))) aNil)) aNil))) (gN 5))
    (mSeq (mAsg (mTup aNil) (gN 6))
    (mSeq (mFor (iRng1 (aCons (mInt 4) aNil)) (gN 7) manyB)
    (mSeq (mAsg (mLst (aCons (mVar 5) (aCons (mTup (aCons (mOp2 ixM (mVar 5) (mInt 0)) (aCons (mOp2 mulM2 (mSl slM (mOp2 ixM (mVar 5) (mInt 1)) pNo (pAt (mInt 1))) (mInt 2)) aNil))) (aCons (mTup (aCons (mTup (aCons (mInt 4) (aCons (mInt 4) aNil))) (aCons (mSl slM (mVar 6) pNo (pAt (mInt 12))) aNil))) (aCons (mTup (aCons (mTup (aCons (mInt 4) (aCons (mInt 4) aNil))) (aCons (mSl slM (mVar 6) pNo (pAt (mInt 13))) aNil))) (aCons (mTup (aCons (mOp2 mulM2 (mTup (aCons (mInt 4) aNil)) (mInt 4)) (aCons (mTup aNil) aNil))) (aCons (mTup (aCons (mTup (aCons (mInt 5) aNil)) (aCons (mTup aNil) aNil))) aNil))))))) (gN 8))
    (mSeq (mAsg (mOp2 plusM (mVar 8) (mLst (aCons (mTup (aCons (mOp2 mulM2 (mTup (aCons (mInt 1) aNil)) (mInt 5)) (aCons (mTup aNil) aNil))) (aCons (mTup (aCons (mTup aNil) (aCons (mTup aNil) aNil))) (aCons (mTup (aCons (mTup (aCons (mInt 0) aNil)) (aCons (mTup aNil) aNil))) (aCons (mTup (aCons (mTup (aCons (mInt 1) aNil)) (aCons (mTup aNil) aNil))) (aCons (mTup (aCons (mTup (aCons (mInt 1) (aCons (mInt 1) aNil))) (aCons (mTup (aCons (mTup (aCons (mTup (aCons (mInt 0) (aCons (mInt 0) aNil))) (aCons (mTup (aCons (mInt 1) (aCons (mInt 0) aNil))) (aCons (mInt 4) aNil)))) aNil)) aNil))) aNil))))))) (gN 8))
    (mSeq (mAsg (mOp2 plusM (mVar 8) (mLc (iRng1 (aCons (mInt 10) aNil)) (gN 10) tAll (mCall (f__law_bent 6) (aCons (mCall f__law_anew (aCons (mVar 1) aNil)) (aCons (mVar 5) aNil))) [10])) (gN 8))
    (mFor (iSeq (mVar 8)) (gN 9) vb)))))))))
theorem law_body : b_law =
    (mSeq (mAsg (mCall f__law_open (aCons (mVar 0) aNil)) (gN 1))
    (mSeq (mFor (iRng1 (aCons (mInt 2) aNil)) (gN 2) turnB)
    (mRet (mBl true)))) := rfl
def manyL (n : Nat) : List T5 := (List.range n).flatMap fun k : Nat => [(0, (k : Int), 1, (k : Int), 0), (0, (k : Int), 1, (k : Int), 1), (0, (k : Int), 1, (k : Int), 2), (0, (k : Int), 1, (k : Int), 3)]
theorem many_step {s0 s1 s2 s3 s4 s5 s7 s8 s9 s10 s11 s12 s13 s14 s15 : Option MV} {es : List T5} {k : Int} {h : MHp} {D : MD} (hl : es.length ≤ 100) (q : D.nx [s0, s1, s2, s3, s4, s5, some (.tup ((es ++ [(0, k, 1, k, 0), (0, k, 1, k, 1), (0, k, 1, k, 2), (0, k, 1, k, 3)]).map wv)), some (.int k), s8, s9, s10, s11, s12, s13, s14, s15] h) :
    manyB [s0, s1, s2, s3, s4, s5, some (.tup (es.map wv)), some (.int k), s8, s9, s10, s11, s12, s13, s14, s15] h D := by
  simp only [manyB, getK, setK, Option.isSome_some, eqM_int, neM_int, kit_ii, kit_bi, kit_ni, kit_si, kit_ti, kit_li, kit_ib, kit_bb, kit_tt, kit_it, kit_bt, kit_nt, kit_st, kit_lt, atI0, atI1, atI2, ixN30, ixN31, ixN32, mFn, startM, mSeq, mIf, mAsg, mRet, mRetN, mDrop, mNext, gN, gT, gsCons, gsNil, gIx, mVar, mInt, mBl, mNon, mStr, mC, mOp1, mOp2, int2, plusM, addM, mulM2, negM, isM, isNotM, isNoneM, tV, tNo, tAn, Mini.tOr, mAnd, mOr, mNot, Mini.notM, Bool.not_false, Bool.not_true, Bool.false_eq_true, if_false, if_true, reduceIte, mIfE, aNil, aCons, mTup, mLst, mLstC, mSl, slM, pNo, pAt, mB, mCall, lenM, listM, listMC, tupleM, intM, boolM, ixM, ixV, seqOf, lstOf, Mini.cellOf, mPar, mPar3, mLc, mLcC, mFor, iSeq, Mini.iRng1, Mini.iRng2, Mini.iEnum, Mini.iZip, mIsi, isiM, tyM, mMt, mMt0, appendM, extendM, popM, catF, catF.lstM, mChain, tAll, wipeM, mdK, Prod.mk.injEq, and_assoc, List.map_cons, List.map_nil, List.length_cons, List.length_nil, List.replicate, List.cons_append, List.nil_append, List.getElem?_cons_zero, List.getElem?_cons_succ, List.set_cons_zero, List.set_cons_succ, Option.some.injEq, exists_eq_left', exists_eq_left, true_and, and_true, List.cons.injEq, MV.int.injEq, MV.bl.injEq, MV.tup.injEq, MV.fl.injEq, MV.str.injEq, MV.ref.injEq, Option.bind_some, exists_and_left, exists_const, Nat.sub_self, Nat.reduceSub, Nat.reduceAdd, List.append_nil, List.nil_append, List.length_map, Nat.add_zero, Nat.zero_add]
  refine ⟨by decide, by decide, ?_⟩
  refine comp_pure (f := fun x => some (wv (0, k, 1, k, toI x))) trivial (rng 0 4) [] (by rw [sizeLine_eq]; decide) (fun x hx acc K ha hk => ?_) ?_
  · have : ∃ i : Int, x = .int i := by
      unfold rng at hx
      obtain ⟨i, _, rfl⟩ := List.mem_map.mp hx
      exact ⟨_, rfl⟩
    obtain ⟨i, rfl⟩ := this
    simp only [tAll, getK, setK, Option.isSome_some, eqM_int, neM_int, kit_ii, kit_bi, kit_ni, kit_si, kit_ti, kit_li, kit_ib, kit_bb, kit_tt, kit_it, kit_bt, kit_nt, kit_st, kit_lt, atI0, atI1, atI2, ixN30, ixN31, ixN32, mFn, startM, mSeq, mIf, mAsg, mRet, mRetN, mDrop, mNext, gN, gT, gsCons, gsNil, gIx, mVar, mInt, mBl, mNon, mStr, mC, mOp1, mOp2, int2, plusM, addM, mulM2, negM, isM, isNotM, isNoneM, tV, tNo, tAn, Mini.tOr, mAnd, mOr, mNot, Mini.notM, Bool.not_false, Bool.not_true, Bool.false_eq_true, if_false, if_true, reduceIte, mIfE, aNil, aCons, mTup, mLst, mLstC, mSl, slM, pNo, pAt, mB, mCall, lenM, listM, listMC, tupleM, intM, boolM, ixM, ixV, seqOf, lstOf, Mini.cellOf, mPar, mPar3, mLc, mLcC, mFor, iSeq, Mini.iRng1, Mini.iRng2, Mini.iEnum, Mini.iZip, mIsi, isiM, tyM, mMt, mMt0, appendM, extendM, popM, catF, catF.lstM, mChain, tAll, wipeM, mdK, Prod.mk.injEq, and_assoc, List.map_cons, List.map_nil, List.length_cons, List.length_nil, List.replicate, List.cons_append, List.nil_append, List.getElem?_cons_zero, List.getElem?_cons_succ, List.set_cons_zero, List.set_cons_succ, Option.some.injEq, exists_eq_left', exists_eq_left, true_and, and_true, List.cons.injEq, MV.int.injEq, MV.bl.injEq, MV.tup.injEq, MV.fl.injEq, MV.str.injEq, MV.ref.injEq, Option.bind_some, exists_and_left, exists_const, Nat.sub_self, Nat.reduceSub, Nat.reduceAdd, List.append_nil, List.nil_append, List.length_map, Nat.add_zero, Nat.zero_add]
    exact ⟨smallLine (by decide), smallLine (by decide), smallLine (by decide), ha, hk⟩
  · rw [List.nil_append]
    have e : (rng 0 4).filterMap (fun x => some (wv (0, k, 1, k, toI x))) = [(0, k, 1, k, 0), (0, k, 1, k, 1), (0, k, 1, k, 2), (0, k, 1, k, 3)].map wv := rfl
    rw [e]
    refine ⟨smallLine (by simp only [List.length_map, List.length_cons, List.length_nil]; omega), ?_⟩
    rw [← List.map_append]
    exact q
end Lw
namespace Lw
open PySem PySem.Spec PyProof.Rows L2 Mini PySem.W
def nonF (x : MV) : Option MV := match x with
  | .non => none
  | v => some v
theorem wn_list : ∀ {acc : List MV}, (∀ x ∈ acc, WN x) → ∃ es : List T5, acc.filterMap nonF = es.map wv ∧ es.length ≤ acc.length ∧ ∀ p ∈ es, small p
  | [], _ => ⟨[], rfl, Nat.le_refl _, fun p hp => nomatch hp⟩
  | x :: xs, h => by
    obtain ⟨es, e, hl, hs⟩ := wn_list (acc := xs) fun z hz => h z (List.mem_cons_of_mem _ hz)
    rcases h x List.mem_cons_self with rfl | ⟨p, rfl, sp⟩
    · exact ⟨es, by rw [List.filterMap_cons]; exact e, Nat.le_succ_of_le hl, hs⟩
    · refine ⟨p :: es, ?_, Nat.succ_le_succ hl, fun q hq => ?_⟩
      · rw [List.filterMap_cons, List.map_cons, ← e]; rfl
      · rcases List.mem_cons.mp hq with rfl | hq
        · exact sp
        · exact hs q hq
theorem asc_mem {es : List T5} {p : T5} (h : p ∈ asc es) : p ∈ es := List.mem_eraseDups.mp ((List.mergeSort_perm _ _).mem_iff.mp h)
theorem cut_map (xs : List T5) (lo hi : Option Int) : cutM (xs.map wv) lo hi = (cutM xs lo hi).map wv := by
  unfold cutM
  rw [List.map_take, List.map_drop, List.length_map]
theorem cut_mem {xs : List T5} {lo hi : Option Int} {p : T5} (h : p ∈ cutM xs lo hi) : p ∈ xs := by
  unfold cutM at h
  exact List.mem_of_mem_drop (List.mem_of_mem_take h)
theorem cut_le12 {α : Type} (xs : List α) : (cutM xs none (some 12)).length ≤ 12 := by
  unfold cutM
  rw [List.length_take]
  have e : HT.sIx xs.length xs.length (some 12) - HT.sIx xs.length 0 none ≤ 12 := by
    unfold HT.sIx
    simp
    try omega
  omega
theorem cut_len {α : Type} (xs : List α) (lo hi : Option Int) : (cutM xs lo hi).length ≤ xs.length := by
  unfold cutM
  rw [List.length_take, List.length_drop]
  omega
def kE (k : Int) : List T5 := [(0, k, 1, k, 0), (0, k, 1, k, 1), (0, k, 1, k, 2), (0, k, 1, k, 3)]
def manyE : List T5 := [] ++ kE 0 ++ kE 1 ++ kE 2 ++ kE 3
theorem many_loop {s0 s1 s2 s3 s4 s5 s7 s8 s9 s10 s11 s12 s13 s14 s15 : Option MV} {h : MHp} {D : MD} {ok : MHp → Prop} (hok : ∀ h, ok h)
    (q : D.nx [s0, s1, s2, s3, s4, s5, some (.tup (manyE.map wv)), some (.int 3), s8, s9, s10, s11, s12, s13, s14, s15] h) :
    Mini.forM ok (gN 7) manyB (rng 0 4) [s0, s1, s2, s3, s4, s5, some (.tup []), s7, s8, s9, s10, s11, s12, s13, s14, s15] h D := by
  refine ⟨hok _, many_step (es := []) (k := 0) (s7 := none) (by decide) ?_⟩
  refine ⟨hok _, many_step (es := [] ++ kE 0) (k := 1) (s7 := none) (by decide) ?_⟩
  refine ⟨hok _, many_step (es := [] ++ kE 0 ++ kE 1) (k := 2) (s7 := none) (by decide) ?_⟩
  refine ⟨hok _, many_step (es := [] ++ kE 0 ++ kE 1 ++ kE 2) (k := 3) (s7 := none) (by decide) ?_⟩
  exact ⟨hok _, q⟩
theorem many_small : ∀ p ∈ manyE, small p := fun p hp => by
  simp only [manyE, kE, List.nil_append, List.cons_append, List.mem_cons, List.not_mem_nil, or_false] at hp
  rcases hp with rfl | rfl | rfl | rfl | rfl | rfl | rfl | rfl | rfl | rfl | rfl | rfl | rfl | rfl | rfl | rfl <;> exact small_of (by decide) (by decide) (by decide) (by decide) (by decide)
theorem ga_ints {ss : List Int} (h : ∀ s ∈ ss, 1 ≤ s ∧ s ≤ 4) (hl : ss.length ≤ 4) : GA (ss.map MV.int) 20000 0 := by
  have hz : ∀ ss : List Int, szAll (ss.map MV.int) ≤ 5000 * ss.length ∧ depAll (ss.map MV.int) = 0 := fun ss => by
    induction ss with
    | nil => simp [szAll, depAll]
    | cons s ss ih => simp only [List.map_cons, szAll, depAll, MV.sz, MV.dep, List.length_cons]; have := ih.1; have := ih.2; omega
  refine ⟨sokAll_iff.mpr fun x hx => ?_, shbAll_iff.mpr fun x hx => ?_, Nat.le_of_eq (hz ss).2, by have := (hz ss).1; omega⟩
  · obtain ⟨s, _, rfl⟩ := List.mem_map.mp hx
    rfl
  · obtain ⟨s, hs, rfl⟩ := List.mem_map.mp hx
    have := h s hs
    simp only [MV.shb]
    exact decide_eq_true (log2_small (by omega) (by omega))
theorem gp_wv {fs : List T5} (hc : ∀ p ∈ fs, small p) {n : Nat} (h : fs.length ≤ n) : GA (fs.map wv) (9633 * n) 2 := ⟨wv_sok_all _, shbAll_iff.mpr fun x hx => by obtain ⟨p, hp, rfl⟩ := List.mem_map.mp hx; exact hc p hp, wv_depAll _, by have := wv_szAll fs; have := Nat.mul_le_mul_left 9633 h; omega⟩
theorem pair_gd {xs ys : List MV} {S S' d : Nat} (g : GA xs S d) (g' : GA ys S' d) (h : S + S' ≤ 15000000) (hd : d ≤ 40) : Gd (.tup [.tup xs, .tup ys]) := by
  have x := ((GA.one g.tup).app (GA.one g'.tup)).tup
  exact ⟨x.sok, x.shb, Nat.le_trans x.dep (by omega), Nat.le_trans x.sz (by omega)⟩
theorem GA.deep {xs : List MV} {S d d' : Nat} (g : GA xs S d) (h : d ≤ d') : GA xs S d' := ⟨g.sok, g.shb, Nat.le_trans g.dep h, g.sz⟩
theorem nil_ga (d : Nat) : GA [] 4 d := ⟨rfl, rfl, by simp [depAll], by simp [szAll]⟩
theorem gi_ok (xs : List Int) (h : ∀ s ∈ xs, 0 ≤ s ∧ s ≤ 5) (hl : xs.length ≤ 5) : GA (xs.map MV.int) 100000 2 := by
  have hz : ∀ ss : List Int, szAll (ss.map MV.int) ≤ 5000 * ss.length ∧ depAll (ss.map MV.int) = 0 := fun ss => by
    induction ss with
    | nil => simp [szAll, depAll]
    | cons s ss ih => simp only [List.map_cons, szAll, depAll, MV.sz, MV.dep, List.length_cons]; have := ih.1; have := ih.2; omega
  refine ⟨sokAll_iff.mpr fun x hx => ?_, shbAll_iff.mpr fun x hx => ?_, by rw [(hz xs).2]; omega, by have := (hz xs).1; omega⟩
  · obtain ⟨s, _, rfl⟩ := List.mem_map.mp hx
    rfl
  · obtain ⟨s, hs, rfl⟩ := List.mem_map.mp hx
    have := h s hs
    simp only [MV.shb]
    exact decide_eq_true (log2_small (by omega) (by omega))
theorem turn_ok {cs : List Int} {a pv : Int} {t : MHp} {D : MD} {s0 s2 s3 s4 s5 s6 s7 s8 s9 s10 s11 s12 s13 s14 s15 : Option MV} (ht : TOk t) (ha : 0 ≤ a) (hb : a + 1000 < 2 ^ 30)
    (q : ∀ s3 s4 s5 s6 s7 s8 s9 s10 s11 s12 s13 s14 s15 a' v' t', TOk t' → a ≤ a' → a' ≤ a + 1000 → D.nx [s0, some (.ref 1), s2, s3, s4, s5, s6, s7, s8, s9, s10, s11, s12, s13, s14, s15] (pen cs a' v' t')) :
    turnB [s0, some (.ref 1), s2, s3, s4, s5, s6, s7, s8, s9, s10, s11, s12, s13, s14, s15] (pen cs a pv t) D := by
  unfold turnB
  generalize hrest : (mSeq (mAsg (mLc (iRng1 (aCons (mCall f__law_take (aCons (mVar 1) (aCons (mInt 14) aNil))) aNil)) (gN 10) tAll _ [10]) (gN 4)) _) = rest
  simp only [getK, setK, Option.isSome_some, eqM_int, neM_int, kit_ii, kit_bi, kit_ni, kit_si, kit_ti, kit_li, kit_ib, kit_bb, kit_tt, kit_it, kit_bt, kit_nt, kit_st, kit_lt, atI0, atI1, atI2, ixN30, ixN31, ixN32, mFn, startM, mSeq, mIf, mAsg, mRet, mRetN, mDrop, mNext, gN, gT, gsCons, gsNil, gIx, mVar, mInt, mBl, mNon, mStr, mC, mOp1, mOp2, int2, plusM, addM, mulM2, negM, isM, isNotM, isNoneM, tV, tNo, tAn, Mini.tOr, mAnd, mOr, mNot, Mini.notM, Bool.not_false, Bool.not_true, Bool.false_eq_true, if_false, if_true, reduceIte, mIfE, aNil, aCons, mTup, mLst, mLstC, mSl, slM, pNo, pAt, mB, mCall, lenM, listM, listMC, tupleM, intM, boolM, ixM, ixV, seqOf, lstOf, Mini.cellOf, mPar, mPar3, mLc, mLcC, mFor, iSeq, Mini.iRng1, Mini.iRng2, Mini.iEnum, Mini.iZip, mIsi, isiM, tyM, mMt, mMt0, appendM, extendM, popM, catF, catF.lstM, mChain, tAll, wipeM, mdK, Prod.mk.injEq, and_assoc, List.map_cons, List.map_nil, List.length_cons, List.length_nil, List.replicate, List.cons_append, List.nil_append, List.getElem?_cons_zero, List.getElem?_cons_succ, List.set_cons_zero, List.set_cons_succ, Option.some.injEq, exists_eq_left', exists_eq_left, true_and, and_true, List.cons.injEq, MV.int.injEq, MV.bl.injEq, MV.tup.injEq, MV.fl.injEq, MV.str.injEq, MV.ref.injEq, Option.bind_some, exists_and_left, exists_const, Nat.sub_self, Nat.reduceSub, Nat.reduceAdd, List.append_nil, List.nil_append, List.length_map, Nat.add_zero, Nat.zero_add]
  refine anew_ok ht ?_
  refine drawn_plan_ok ht ha (by omega) fun ss a1 v1 h0 h1 h2 h3 h4 => ?_
  simp only [getK, setK, Option.isSome_some, eqM_int, neM_int, kit_ii, kit_bi, kit_ni, kit_si, kit_ti, kit_li, kit_ib, kit_bb, kit_tt, kit_it, kit_bt, kit_nt, kit_st, kit_lt, atI0, atI1, atI2, ixN30, ixN31, ixN32, mFn, startM, mSeq, mIf, mAsg, mRet, mRetN, mDrop, mNext, gN, gT, gsCons, gsNil, gIx, mVar, mInt, mBl, mNon, mStr, mC, mOp1, mOp2, int2, plusM, addM, mulM2, negM, isM, isNotM, isNoneM, tV, tNo, tAn, Mini.tOr, mAnd, mOr, mNot, Mini.notM, Bool.not_false, Bool.not_true, Bool.false_eq_true, if_false, if_true, reduceIte, mIfE, aNil, aCons, mTup, mLst, mLstC, mSl, slM, pNo, pAt, mB, mCall, lenM, listM, listMC, tupleM, intM, boolM, ixM, ixV, seqOf, lstOf, Mini.cellOf, mPar, mPar3, mLc, mLcC, mFor, iSeq, Mini.iRng1, Mini.iRng2, Mini.iEnum, Mini.iZip, mIsi, isiM, tyM, mMt, mMt0, appendM, extendM, popM, catF, catF.lstM, mChain, tAll, wipeM, mdK, Prod.mk.injEq, and_assoc, List.map_cons, List.map_nil, List.length_cons, List.length_nil, List.replicate, List.cons_append, List.nil_append, List.getElem?_cons_zero, List.getElem?_cons_succ, List.set_cons_zero, List.set_cons_succ, Option.some.injEq, exists_eq_left', exists_eq_left, true_and, and_true, List.cons.injEq, MV.int.injEq, MV.bl.injEq, MV.tup.injEq, MV.fl.injEq, MV.str.injEq, MV.ref.injEq, Option.bind_some, exists_and_left, exists_const, Nat.sub_self, Nat.reduceSub, Nat.reduceAdd, List.append_nil, List.nil_append, List.length_map, Nat.add_zero, Nat.zero_add]
  subst hrest
  generalize hrest : (mSeq (mAsg (mTup (aCons (mVar 3) _)) (gN 5)) _) = rest
  simp only [getK, setK, Option.isSome_some, eqM_int, neM_int, kit_ii, kit_bi, kit_ni, kit_si, kit_ti, kit_li, kit_ib, kit_bb, kit_tt, kit_it, kit_bt, kit_nt, kit_st, kit_lt, atI0, atI1, atI2, ixN30, ixN31, ixN32, mFn, startM, mSeq, mIf, mAsg, mRet, mRetN, mDrop, mNext, gN, gT, gsCons, gsNil, gIx, mVar, mInt, mBl, mNon, mStr, mC, mOp1, mOp2, int2, plusM, addM, mulM2, negM, isM, isNotM, isNoneM, tV, tNo, tAn, Mini.tOr, mAnd, mOr, mNot, Mini.notM, Bool.not_false, Bool.not_true, Bool.false_eq_true, if_false, if_true, reduceIte, mIfE, aNil, aCons, mTup, mLst, mLstC, mSl, slM, pNo, pAt, mB, mCall, lenM, listM, listMC, tupleM, intM, boolM, ixM, ixV, seqOf, lstOf, Mini.cellOf, mPar, mPar3, mLc, mLcC, mFor, iSeq, Mini.iRng1, Mini.iRng2, Mini.iEnum, Mini.iZip, mIsi, isiM, tyM, mMt, mMt0, appendM, extendM, popM, catF, catF.lstM, mChain, tAll, wipeM, mdK, Prod.mk.injEq, and_assoc, List.map_cons, List.map_nil, List.length_cons, List.length_nil, List.replicate, List.cons_append, List.nil_append, List.getElem?_cons_zero, List.getElem?_cons_succ, List.set_cons_zero, List.set_cons_succ, Option.some.injEq, exists_eq_left', exists_eq_left, true_and, and_true, List.cons.injEq, MV.int.injEq, MV.bl.injEq, MV.tup.injEq, MV.fl.injEq, MV.str.injEq, MV.ref.injEq, Option.bind_some, exists_and_left, exists_const, Nat.sub_self, Nat.reduceSub, Nat.reduceAdd, List.append_nil, List.nil_append, List.length_map, Nat.add_zero, Nat.zero_add]
  refine take_ok ht (by omega) (by omega) (by decide) (by decide) fun n a2 v2 n0 n1 h5 h6 => ?_
  simp only [getK, setK, Option.isSome_some, eqM_int, neM_int, kit_ii, kit_bi, kit_ni, kit_si, kit_ti, kit_li, kit_ib, kit_bb, kit_tt, kit_it, kit_bt, kit_nt, kit_st, kit_lt, atI0, atI1, atI2, ixN30, ixN31, ixN32, mFn, startM, mSeq, mIf, mAsg, mRet, mRetN, mDrop, mNext, gN, gT, gsCons, gsNil, gIx, mVar, mInt, mBl, mNon, mStr, mC, mOp1, mOp2, int2, plusM, addM, mulM2, negM, isM, isNotM, isNoneM, tV, tNo, tAn, Mini.tOr, mAnd, mOr, mNot, Mini.notM, Bool.not_false, Bool.not_true, Bool.false_eq_true, if_false, if_true, reduceIte, mIfE, aNil, aCons, mTup, mLst, mLstC, mSl, slM, pNo, pAt, mB, mCall, lenM, listM, listMC, tupleM, intM, boolM, ixM, ixV, seqOf, lstOf, Mini.cellOf, mPar, mPar3, mLc, mLcC, mFor, iSeq, Mini.iRng1, Mini.iRng2, Mini.iEnum, Mini.iZip, mIsi, isiM, tyM, mMt, mMt0, appendM, extendM, popM, catF, catF.lstM, mChain, tAll, wipeM, mdK, Prod.mk.injEq, and_assoc, List.map_cons, List.map_nil, List.length_cons, List.length_nil, List.replicate, List.cons_append, List.nil_append, List.getElem?_cons_zero, List.getElem?_cons_succ, List.set_cons_zero, List.set_cons_succ, Option.some.injEq, exists_eq_left', exists_eq_left, true_and, and_true, List.cons.injEq, MV.int.injEq, MV.bl.injEq, MV.tup.injEq, MV.fl.injEq, MV.str.injEq, MV.ref.injEq, Option.bind_some, exists_and_left, exists_const, Nat.sub_self, Nat.reduceSub, Nat.reduceAdd, List.append_nil, List.nil_append, List.length_map, Nat.add_zero, Nat.zero_add]
  refine ⟨by omega, by omega, ?_⟩
  refine comp_ind (fun xs acc h => ∃ a' v', h = pen cs a' v' t ∧ (∀ x ∈ acc, WN x) ∧ acc.length + xs.length = n.toNat ∧ a2 ≤ a' ∧ a' ≤ a2 + 3 * acc.length) (fun _ _ _ _ => trivial) (fun acc h ⟨a3, v3, e, g3, g4, g5, g6⟩ => ?_) (fun x xs acc h K ⟨a3, v3, e, g3, g4, g5, g6⟩ hK => ?_) _ [] _ ⟨a2, v2, rfl, (fun x hx => by cases hx), (by unfold rng; rw [List.length_map, List.length_range, List.length_nil]; omega), Int.le_refl _, (by simp)⟩
  · subst e
    obtain ⟨es, ee, el, es1⟩ := wn_list g3
    rw [List.length_nil] at g4
    subst hrest
    generalize hrest : (mSeq (mAsg (mTup aNil) (gN 6)) _) = rest
    simp only [getK, setK, Option.isSome_some, eqM_int, neM_int, kit_ii, kit_bi, kit_ni, kit_si, kit_ti, kit_li, kit_ib, kit_bb, kit_tt, kit_it, kit_bt, kit_nt, kit_st, kit_lt, atI0, atI1, atI2, ixN30, ixN31, ixN32, mFn, startM, mSeq, mIf, mAsg, mRet, mRetN, mDrop, mNext, gN, gT, gsCons, gsNil, gIx, mVar, mInt, mBl, mNon, mStr, mC, mOp1, mOp2, int2, plusM, addM, mulM2, negM, isM, isNotM, isNoneM, tV, tNo, tAn, Mini.tOr, mAnd, mOr, mNot, Mini.notM, Bool.not_false, Bool.not_true, Bool.false_eq_true, if_false, if_true, reduceIte, mIfE, aNil, aCons, mTup, mLst, mLstC, mSl, slM, pNo, pAt, mB, mCall, lenM, listM, listMC, tupleM, intM, boolM, ixM, ixV, seqOf, lstOf, Mini.cellOf, mPar, mPar3, mLc, mLcC, mFor, iSeq, Mini.iRng1, Mini.iRng2, Mini.iEnum, Mini.iZip, mIsi, isiM, tyM, mMt, mMt0, appendM, extendM, popM, catF, catF.lstM, mChain, tAll, wipeM, mdK, Prod.mk.injEq, and_assoc, List.map_cons, List.map_nil, List.length_cons, List.length_nil, List.replicate, List.cons_append, List.nil_append, List.getElem?_cons_zero, List.getElem?_cons_succ, List.set_cons_zero, List.set_cons_succ, Option.some.injEq, exists_eq_left', exists_eq_left, true_and, and_true, List.cons.injEq, MV.int.injEq, MV.bl.injEq, MV.tup.injEq, MV.fl.injEq, MV.str.injEq, MV.ref.injEq, Option.bind_some, exists_and_left, exists_const, Nat.sub_self, Nat.reduceSub, Nat.reduceAdd, List.append_nil, List.nil_append, List.length_map, Nat.add_zero, Nat.zero_add]
    refine comp_pure (f := nonF) trivial acc [] (by rw [sizeLine_eq]; simp only [List.length_nil]; omega) (fun x hx ac K ha hk => ?_) ?_
    · rcases g3 x hx with rfl | ⟨p, rfl, sp⟩
      · simp only [tAll, gN, wv, nonF, getK, setK, Option.isSome_some, eqM_int, neM_int, kit_ii, kit_bi, kit_ni, kit_si, kit_ti, kit_li, kit_ib, kit_bb, kit_tt, kit_it, kit_bt, kit_nt, kit_st, kit_lt, atI0, atI1, atI2, ixN30, ixN31, ixN32, mFn, startM, mSeq, mIf, mAsg, mRet, mRetN, mDrop, mNext, gN, gT, gsCons, gsNil, gIx, mVar, mInt, mBl, mNon, mStr, mC, mOp1, mOp2, int2, plusM, addM, mulM2, negM, isM, isNotM, isNoneM, tV, tNo, tAn, Mini.tOr, mAnd, mOr, mNot, Mini.notM, Bool.not_false, Bool.not_true, Bool.false_eq_true, if_false, if_true, reduceIte, mIfE, aNil, aCons, mTup, mLst, mLstC, mSl, slM, pNo, pAt, mB, mCall, lenM, listM, listMC, tupleM, intM, boolM, ixM, ixV, seqOf, lstOf, Mini.cellOf, mPar, mPar3, mLc, mLcC, mFor, iSeq, Mini.iRng1, Mini.iRng2, Mini.iEnum, Mini.iZip, mIsi, isiM, tyM, mMt, mMt0, appendM, extendM, popM, catF, catF.lstM, mChain, tAll, wipeM, mdK, Prod.mk.injEq, and_assoc, List.map_cons, List.map_nil, List.length_cons, List.length_nil, List.replicate, List.cons_append, List.nil_append, List.getElem?_cons_zero, List.getElem?_cons_succ, List.set_cons_zero, List.set_cons_succ, Option.some.injEq, exists_eq_left', exists_eq_left, true_and, and_true, List.cons.injEq, MV.int.injEq, MV.bl.injEq, MV.tup.injEq, MV.fl.injEq, MV.str.injEq, MV.ref.injEq, Option.bind_some, exists_and_left, exists_const, Nat.sub_self, Nat.reduceSub, Nat.reduceAdd, List.append_nil, List.nil_append, List.length_map, Nat.add_zero, Nat.zero_add] at hk ⊢
        simpa using hk
      · simp only [tAll, gN, wv, nonF, getK, setK, Option.isSome_some, eqM_int, neM_int, kit_ii, kit_bi, kit_ni, kit_si, kit_ti, kit_li, kit_ib, kit_bb, kit_tt, kit_it, kit_bt, kit_nt, kit_st, kit_lt, atI0, atI1, atI2, ixN30, ixN31, ixN32, mFn, startM, mSeq, mIf, mAsg, mRet, mRetN, mDrop, mNext, gN, gT, gsCons, gsNil, gIx, mVar, mInt, mBl, mNon, mStr, mC, mOp1, mOp2, int2, plusM, addM, mulM2, negM, isM, isNotM, isNoneM, tV, tNo, tAn, Mini.tOr, mAnd, mOr, mNot, Mini.notM, Bool.not_false, Bool.not_true, Bool.false_eq_true, if_false, if_true, reduceIte, mIfE, aNil, aCons, mTup, mLst, mLstC, mSl, slM, pNo, pAt, mB, mCall, lenM, listM, listMC, tupleM, intM, boolM, ixM, ixV, seqOf, lstOf, Mini.cellOf, mPar, mPar3, mLc, mLcC, mFor, iSeq, Mini.iRng1, Mini.iRng2, Mini.iEnum, Mini.iZip, mIsi, isiM, tyM, mMt, mMt0, appendM, extendM, popM, catF, catF.lstM, mChain, tAll, wipeM, mdK, Prod.mk.injEq, and_assoc, List.map_cons, List.map_nil, List.length_cons, List.length_nil, List.replicate, List.cons_append, List.nil_append, List.getElem?_cons_zero, List.getElem?_cons_succ, List.set_cons_zero, List.set_cons_succ, Option.some.injEq, exists_eq_left', exists_eq_left, true_and, and_true, List.cons.injEq, MV.int.injEq, MV.bl.injEq, MV.tup.injEq, MV.fl.injEq, MV.str.injEq, MV.ref.injEq, Option.bind_some, exists_and_left, exists_const, Nat.sub_self, Nat.reduceSub, Nat.reduceAdd, List.append_nil, List.nil_append, List.length_map, Nat.add_zero, Nat.zero_add] at hk ⊢
        exact ⟨ha, by simpa using hk⟩
    · rw [List.nil_append, ee]
      refine set_run (es := es) rfl (by omega) ?_
      have ecut : cutM ((asc es).map wv) none (some 12) = (cutM (asc es) none (some 12)).map wv := cut_map _ _ _
      have hc : ∀ p ∈ cutM (asc es) none (some 12), small p := fun p hp => es1 p (asc_mem (cut_mem hp))
      have hc2 : (cutM (asc es) none (some 12)).length ≤ 12 := cut_le12 _
      generalize hfs : cutM (asc es) none (some 12) = fs at ecut hc hc2
      refine ⟨_, rfl, smallLine (by decide), ?_⟩
      rw [ecut]
      subst hrest
      generalize hrest : (mSeq (mAsg (mLst _) (gN 8)) _) = rest
      simp only [getK, setK, Option.isSome_some, eqM_int, neM_int, kit_ii, kit_bi, kit_ni, kit_si, kit_ti, kit_li, kit_ib, kit_bb, kit_tt, kit_it, kit_bt, kit_nt, kit_st, kit_lt, atI0, atI1, atI2, ixN30, ixN31, ixN32, mFn, startM, mSeq, mIf, mAsg, mRet, mRetN, mDrop, mNext, gN, gT, gsCons, gsNil, gIx, mVar, mInt, mBl, mNon, mStr, mC, mOp1, mOp2, int2, plusM, addM, mulM2, negM, isM, isNotM, isNoneM, tV, tNo, tAn, Mini.tOr, mAnd, mOr, mNot, Mini.notM, Bool.not_false, Bool.not_true, Bool.false_eq_true, if_false, if_true, reduceIte, mIfE, aNil, aCons, mTup, mLst, mLstC, mSl, slM, pNo, pAt, mB, mCall, lenM, listM, listMC, tupleM, intM, boolM, ixM, ixV, seqOf, lstOf, Mini.cellOf, mPar, mPar3, mLc, mLcC, mFor, iSeq, Mini.iRng1, Mini.iRng2, Mini.iEnum, Mini.iZip, mIsi, isiM, tyM, mMt, mMt0, appendM, extendM, popM, catF, catF.lstM, mChain, tAll, wipeM, mdK, Prod.mk.injEq, and_assoc, List.map_cons, List.map_nil, List.length_cons, List.length_nil, List.replicate, List.cons_append, List.nil_append, List.getElem?_cons_zero, List.getElem?_cons_succ, List.set_cons_zero, List.set_cons_succ, Option.some.injEq, exists_eq_left', exists_eq_left, true_and, and_true, List.cons.injEq, MV.int.injEq, MV.bl.injEq, MV.tup.injEq, MV.fl.injEq, MV.str.injEq, MV.ref.injEq, Option.bind_some, exists_and_left, exists_const, Nat.sub_self, Nat.reduceSub, Nat.reduceAdd, List.append_nil, List.nil_append, List.length_map, Nat.add_zero, Nat.zero_add]
      refine ⟨smallLine (by decide), by decide, by decide, many_loop (fun _ => trivial) ?_⟩
      subst hrest
      generalize hrest : (mSeq (mAsg (mOp2 plusM (mVar 8) (mLc _ _ _ _ _)) (gN 8)) _) = rest
      simp only [atI0, atI1, cut_map, getK, setK, Option.isSome_some, eqM_int, neM_int, kit_ii, kit_bi, kit_ni, kit_si, kit_ti, kit_li, kit_ib, kit_bb, kit_tt, kit_it, kit_bt, kit_nt, kit_st, kit_lt, atI0, atI1, atI2, ixN30, ixN31, ixN32, mFn, startM, mSeq, mIf, mAsg, mRet, mRetN, mDrop, mNext, gN, gT, gsCons, gsNil, gIx, mVar, mInt, mBl, mNon, mStr, mC, mOp1, mOp2, int2, plusM, addM, mulM2, negM, isM, isNotM, isNoneM, tV, tNo, tAn, Mini.tOr, mAnd, mOr, mNot, Mini.notM, Bool.not_false, Bool.not_true, Bool.false_eq_true, if_false, if_true, reduceIte, mIfE, aNil, aCons, mTup, mLst, mLstC, mSl, slM, pNo, pAt, mB, mCall, lenM, listM, listMC, tupleM, intM, boolM, ixM, ixV, seqOf, lstOf, Mini.cellOf, mPar, mPar3, mLc, mLcC, mFor, iSeq, Mini.iRng1, Mini.iRng2, Mini.iEnum, Mini.iZip, mIsi, isiM, tyM, mMt, mMt0, appendM, extendM, popM, catF, catF.lstM, mChain, tAll, wipeM, mdK, Prod.mk.injEq, and_assoc, List.map_cons, List.map_nil, List.length_cons, List.length_nil, List.replicate, List.cons_append, List.nil_append, List.getElem?_cons_zero, List.getElem?_cons_succ, List.set_cons_zero, List.set_cons_succ, Option.some.injEq, exists_eq_left', exists_eq_left, true_and, and_true, List.cons.injEq, MV.int.injEq, MV.bl.injEq, MV.tup.injEq, MV.fl.injEq, MV.str.injEq, MV.ref.injEq, Option.bind_some, exists_and_left, exists_const, Nat.sub_self, Nat.reduceSub, Nat.reduceAdd, List.append_nil, List.nil_append, List.length_map, Nat.add_zero, Nat.zero_add]
      have hq : (cutM fs none (some 1)).length ≤ 1000 := by
        have := cut_len fs none (some 1)
        omega
      repeat' (refine And.intro (by first | exact smallLine (by decide) | assumption | decide) ?_)
      have gp : GA (fs.map wv) 120000 2 := ⟨wv_sok_all _, shbAll_iff.mpr fun x hx => by obtain ⟨p, hp, rfl⟩ := List.mem_map.mp hx; exact hc p hp, wv_depAll _, by have := wv_szAll fs; omega⟩
      have gs : GA (ss.map MV.int) 20000 0 := ga_ints h2 h1
      have gpl : GV (.tup [.tup (ss.map .int), .tup (fs.map wv)]) 500000 5 := by
        have x1 := GA.one (gs.tup.mono (d' := 3) (Nat.le_refl _) (by omega))
        have x2 := GA.one gp.tup
        exact ((x1.app x2).tup).mono (by omega) (by omega)
      generalize hvs : ([MV.tup [MV.tup (List.map MV.int ss), MV.tup (List.map wv fs)], _, _, _, _, _, _, _, _, _, _] : List MV) = vs
      have gvs : ∀ v ∈ vs, Gd v := by
        have n1 : ∀ k : Int, 1 ≤ k ∧ k ≤ 4 → ∀ s ∈ [k], 1 ≤ s ∧ s ≤ 4 := fun k h s hs => by rw [List.mem_singleton.mp hs]; exact h
        have gi : ∀ xs : List Int, (∀ s ∈ xs, 0 ≤ s ∧ s ≤ 5) → xs.length ≤ 5 → GA (xs.map MV.int) 100000 2 := gi_ok
        intro v hv
        rw [← hvs] at hv
        simp only [List.mem_cons, List.not_mem_nil, or_false] at hv
        rcases hv with rfl | rfl | rfl | rfl | rfl | rfl | rfl | rfl | rfl | rfl | rfl
        · exact pair_gd (gs.deep (Nat.zero_le 2)) gp (by omega) (by omega)
        · have hcc : ∀ p ∈ cutM fs none (some 1) ++ cutM fs none (some 1), small p := fun p hp => by
            rcases List.mem_append.mp hp with hp | hp <;> exact hc p (cut_mem hp)
          have hl := cut_len fs none (some 1)
          have e : (List.replicate (Int.toNat 2) (List.map wv (cutM fs none (some 1)))).flatten = (cutM fs none (some 1) ++ cutM fs none (some 1)).map wv := by
            rw [List.map_append]
            show _ ++ (_ ++ []) = _
            rw [List.append_nil]
          rw [e]
          exact pair_gd (gs.deep (Nat.zero_le 2)) (gp_wv hcc (n := 24) (by rw [List.length_append]; omega)) (by omega) (by omega)
        · exact pair_gd (gi [4, 4] (by decide) (by decide)) (gp_wv (fun p hp => many_small p (cut_mem hp)) (n := 16) (cut_len manyE none (some 12))) (by omega) (by omega)
        · exact pair_gd (gi [4, 4] (by decide) (by decide)) (gp_wv (fun p hp => many_small p (cut_mem hp)) (n := 16) (cut_len manyE none (some 13))) (by omega) (by omega)
        · exact pair_gd (gi [4, 4, 4, 4] (by decide) (by decide)) (nil_ga 2) (by omega) (by omega)
        · exact pair_gd (gi [5] (by decide) (by decide)) (nil_ga 2) (by omega) (by omega)
        · exact pair_gd (gi [1, 1, 1, 1, 1] (by decide) (by decide)) (nil_ga 2) (by omega) (by omega)
        · exact pair_gd (gi [] (by decide) (by decide)) (nil_ga 2) (by omega) (by omega)
        · exact pair_gd (gi [0] (by decide) (by decide)) (nil_ga 2) (by omega) (by omega)
        · exact pair_gd (gi [1] (by decide) (by decide)) (nil_ga 2) (by omega) (by omega)
        · exact pair_gd (gi [1, 1] (by decide) (by decide)) (gp_wv (fs := [(0, 0, 1, 0, 4)]) (fun p hp => by rw [List.mem_singleton.mp hp]; exact small_of (by decide) (by decide) (by decide) (by decide) (by decide)) (n := 1) (Nat.le_refl _)) (by omega) (by omega)
      have lvs : vs.length = 11 := by rw [← hvs] <;> rfl
      subst hrest
      generalize hvb : Mini.mFor (iSeq (mVar 8)) (gN 9) vb = rest
      simp only [getK, setK, Option.isSome_some, eqM_int, neM_int, kit_ii, kit_bi, kit_ni, kit_si, kit_ti, kit_li, kit_ib, kit_bb, kit_tt, kit_it, kit_bt, kit_nt, kit_st, kit_lt, atI0, atI1, atI2, ixN30, ixN31, ixN32, mFn, startM, mSeq, mIf, mAsg, mRet, mRetN, mDrop, mNext, gN, gT, gsCons, gsNil, gIx, mVar, mInt, mBl, mNon, mStr, mC, mOp1, mOp2, int2, plusM, addM, mulM2, negM, isM, isNotM, isNoneM, tV, tNo, tAn, Mini.tOr, mAnd, mOr, mNot, Mini.notM, Bool.not_false, Bool.not_true, Bool.false_eq_true, if_false, if_true, reduceIte, mIfE, aNil, aCons, mTup, mLst, mLstC, mSl, slM, pNo, pAt, mB, mCall, lenM, listM, listMC, tupleM, intM, boolM, ixM, ixV, seqOf, lstOf, Mini.cellOf, mPar, mPar3, mLc, mLcC, mFor, iSeq, Mini.iRng1, Mini.iRng2, Mini.iEnum, Mini.iZip, mIsi, isiM, tyM, mMt, mMt0, appendM, extendM, popM, catF, catF.lstM, mChain, tAll, wipeM, mdK, Prod.mk.injEq, and_assoc, List.map_cons, List.map_nil, List.length_cons, List.length_nil, List.replicate, List.cons_append, List.nil_append, List.getElem?_cons_zero, List.getElem?_cons_succ, List.set_cons_zero, List.set_cons_succ, Option.some.injEq, exists_eq_left', exists_eq_left, true_and, and_true, List.cons.injEq, MV.int.injEq, MV.bl.injEq, MV.tup.injEq, MV.fl.injEq, MV.str.injEq, MV.ref.injEq, Option.bind_some, exists_and_left, exists_const, Nat.sub_self, Nat.reduceSub, Nat.reduceAdd, List.append_nil, List.nil_append, List.length_map, Nat.add_zero, Nat.zero_add]
      refine ⟨by decide, by decide, ?_⟩
      refine comp_ind (fun xs acc h => ∃ a' v', h = pen cs a' v' t ∧ (∀ x ∈ acc, Gd x) ∧ acc.length + xs.length = 10 ∧ a3 ≤ a' ∧ a' ≤ a3 + 24 * acc.length) (fun _ _ _ _ => trivial) (fun bs h ⟨a5, v5, e, f3, f4, f5, f6⟩ => ?_) (fun x xs bs h K ⟨a5, v5, e, f3, f4, f5, f6⟩ hK => ?_) _ [] _ ⟨a3, v3, rfl, (fun x hx => by cases hx), (by unfold rng; rw [List.length_map, List.length_range, List.length_nil]; rfl), Int.le_refl _, (by simp)⟩
      · subst e
        refine ⟨smallLine (by rw [List.length_nil] at f4; omega), ?_⟩
        subst hvb
        clear hvs
        simp only [mFor, iSeq, mVar, getK, getK, setK, Option.isSome_some, eqM_int, neM_int, kit_ii, kit_bi, kit_ni, kit_si, kit_ti, kit_li, kit_ib, kit_bb, kit_tt, kit_it, kit_bt, kit_nt, kit_st, kit_lt, atI0, atI1, atI2, ixN30, ixN31, ixN32, mFn, startM, mSeq, mIf, mAsg, mRet, mRetN, mDrop, mNext, gN, gT, gsCons, gsNil, gIx, mVar, mInt, mBl, mNon, mStr, mC, mOp1, mOp2, int2, plusM, addM, mulM2, negM, isM, isNotM, isNoneM, tV, tNo, tAn, Mini.tOr, mAnd, mOr, mNot, Mini.notM, Bool.not_false, Bool.not_true, Bool.false_eq_true, if_false, if_true, reduceIte, mIfE, aNil, aCons, mTup, mLst, mLstC, mSl, slM, pNo, pAt, mB, mCall, lenM, listM, listMC, tupleM, intM, boolM, ixM, ixV, seqOf, lstOf, Mini.cellOf, mPar, mPar3, mLc, mLcC, mFor, iSeq, Mini.iRng1, Mini.iRng2, Mini.iEnum, Mini.iZip, mIsi, isiM, tyM, mMt, mMt0, appendM, extendM, popM, catF, catF.lstM, mChain, tAll, wipeM, mdK, Prod.mk.injEq, and_assoc, List.map_cons, List.map_nil, List.length_cons, List.length_nil, List.replicate, List.cons_append, List.nil_append, List.getElem?_cons_zero, List.getElem?_cons_succ, List.set_cons_zero, List.set_cons_succ, Option.some.injEq, exists_eq_left', exists_eq_left, true_and, and_true, List.cons.injEq, MV.int.injEq, MV.bl.injEq, MV.tup.injEq, MV.fl.injEq, MV.str.injEq, MV.ref.injEq, Option.bind_some, exists_and_left, exists_const, Nat.sub_self, Nat.reduceSub, Nat.reduceAdd, List.append_nil, List.nil_append, List.length_map, Nat.add_zero, Nat.zero_add]
        refine vals_loop (fun _ => trivial) (vs ++ bs) t _ _ _ _ ht (fun v hv => ?_) (fun t' s9 s11 s12 s13 ht' => q _ _ _ _ _ _ _ _ _ _ _ _ _ _ _ _ ht' (by omega) (by rw [List.length_nil] at f4; omega))
        rcases List.mem_append.mp hv with hv | hv
        · exact gvs v hv
        · exact f3 v hv
      · subst e
        simp only [gN, tAll, getK, setK, Option.isSome_some, eqM_int, neM_int, kit_ii, kit_bi, kit_ni, kit_si, kit_ti, kit_li, kit_ib, kit_bb, kit_tt, kit_it, kit_bt, kit_nt, kit_st, kit_lt, atI0, atI1, atI2, ixN30, ixN31, ixN32, mFn, startM, mSeq, mIf, mAsg, mRet, mRetN, mDrop, mNext, gN, gT, gsCons, gsNil, gIx, mVar, mInt, mBl, mNon, mStr, mC, mOp1, mOp2, int2, plusM, addM, mulM2, negM, isM, isNotM, isNoneM, tV, tNo, tAn, Mini.tOr, mAnd, mOr, mNot, Mini.notM, Bool.not_false, Bool.not_true, Bool.false_eq_true, if_false, if_true, reduceIte, mIfE, aNil, aCons, mTup, mLst, mLstC, mSl, slM, pNo, pAt, mB, mCall, lenM, listM, listMC, tupleM, intM, boolM, ixM, ixV, seqOf, lstOf, Mini.cellOf, mPar, mPar3, mLc, mLcC, mFor, iSeq, Mini.iRng1, Mini.iRng2, Mini.iEnum, Mini.iZip, mIsi, isiM, tyM, mMt, mMt0, appendM, extendM, popM, catF, catF.lstM, mChain, tAll, wipeM, mdK, Prod.mk.injEq, and_assoc, List.map_cons, List.map_nil, List.length_cons, List.length_nil, List.replicate, List.cons_append, List.nil_append, List.getElem?_cons_zero, List.getElem?_cons_succ, List.set_cons_zero, List.set_cons_succ, Option.some.injEq, exists_eq_left', exists_eq_left, true_and, and_true, List.cons.injEq, MV.int.injEq, MV.bl.injEq, MV.tup.injEq, MV.fl.injEq, MV.str.injEq, MV.ref.injEq, Option.bind_some, exists_and_left, exists_const, Nat.sub_self, Nat.reduceSub, Nat.reduceAdd, List.append_nil, List.nil_append, List.length_map, Nat.add_zero, Nat.zero_add]
        refine anew_ok ht ?_
        rw [List.length_cons] at f4
        refine bent_ok ht 5 gpl (by omega) (by omega) (by omega) (by omega) fun w a4 v4 hw g7 g8 => ⟨smallLine (by omega), hK _ _ ⟨a4, v4, rfl, fun z hz => ?_, ?_, by omega, ?_⟩⟩
        · rcases List.mem_append.mp hz with hz | hz
          · exact f3 z hz
          · rw [List.mem_singleton.mp hz]; exact ⟨hw.sok, hw.shb, Nat.le_trans hw.dep (by omega), Nat.le_trans hw.sz (by decide)⟩
        · rw [List.length_append, List.length_singleton]; omega
        · rw [List.length_append, List.length_singleton]; push_cast; omega
  · subst e
    simp only [gN, tAll, getK, setK, Option.isSome_some, eqM_int, neM_int, kit_ii, kit_bi, kit_ni, kit_si, kit_ti, kit_li, kit_ib, kit_bb, kit_tt, kit_it, kit_bt, kit_nt, kit_st, kit_lt, atI0, atI1, atI2, ixN30, ixN31, ixN32, mFn, startM, mSeq, mIf, mAsg, mRet, mRetN, mDrop, mNext, gN, gT, gsCons, gsNil, gIx, mVar, mInt, mBl, mNon, mStr, mC, mOp1, mOp2, int2, plusM, addM, mulM2, negM, isM, isNotM, isNoneM, tV, tNo, tAn, Mini.tOr, mAnd, mOr, mNot, Mini.notM, Bool.not_false, Bool.not_true, Bool.false_eq_true, if_false, if_true, reduceIte, mIfE, aNil, aCons, mTup, mLst, mLstC, mSl, slM, pNo, pAt, mB, mCall, lenM, listM, listMC, tupleM, intM, boolM, ixM, ixV, seqOf, lstOf, Mini.cellOf, mPar, mPar3, mLc, mLcC, mFor, iSeq, Mini.iRng1, Mini.iRng2, Mini.iEnum, Mini.iZip, mIsi, isiM, tyM, mMt, mMt0, appendM, extendM, popM, catF, catF.lstM, mChain, tAll, wipeM, mdK, Prod.mk.injEq, and_assoc, List.map_cons, List.map_nil, List.length_cons, List.length_nil, List.replicate, List.cons_append, List.nil_append, List.getElem?_cons_zero, List.getElem?_cons_succ, List.set_cons_zero, List.set_cons_succ, Option.some.injEq, exists_eq_left', exists_eq_left, true_and, and_true, List.cons.injEq, MV.int.injEq, MV.bl.injEq, MV.tup.injEq, MV.fl.injEq, MV.str.injEq, MV.ref.injEq, Option.bind_some, exists_and_left, exists_const, Nat.sub_self, Nat.reduceSub, Nat.reduceAdd, List.append_nil, List.nil_append, List.length_map, Nat.add_zero, Nat.zero_add]
    refine anew_ok ht ?_
    rw [List.length_cons] at g4
    refine drawn_wait_ok ht h0 h1 h2 (by omega) (by omega) fun w a4 v4 hw g7 g8 => ⟨smallLine (by omega), hK _ _ ⟨a4, v4, rfl, fun z hz => ?_, ?_, by omega, ?_⟩⟩
    · rcases List.mem_append.mp hz with hz | hz
      · exact g3 z hz
      · rw [List.mem_singleton.mp hz]; exact hw
    · rw [List.length_append, List.length_singleton]; omega
    · rw [List.length_append, List.length_singleton]; push_cast; omega
end Lw
namespace Lw
open PySem PySem.Spec PyProof.Rows L2 Mini PySem.W
theorem law_true (ns : List Int) (hl : ns.length ≤ 63) : f_law [.sc (ns.map .int)] [] (fun v _ => v = .bl true) (fun _ _ => False) := by
  unfold f_law
  rw [law_body]
  generalize ht : turnB = tb
  simp only [getK, setK, Option.isSome_some, eqM_int, neM_int, kit_ii, kit_bi, kit_ni, kit_si, kit_ti, kit_li, kit_ib, kit_bb, kit_tt, kit_it, kit_bt, kit_nt, kit_st, kit_lt, atI0, atI1, atI2, ixN30, ixN31, ixN32, mFn, startM, mSeq, mIf, mAsg, mRet, mRetN, mDrop, mNext, gN, gT, gsCons, gsNil, gIx, mVar, mInt, mBl, mNon, mStr, mC, mOp1, mOp2, int2, plusM, addM, mulM2, negM, isM, isNotM, isNoneM, tV, tNo, tAn, Mini.tOr, mAnd, mOr, mNot, Mini.notM, Bool.not_false, Bool.not_true, Bool.false_eq_true, if_false, if_true, reduceIte, mIfE, aNil, aCons, mTup, mLst, mLstC, mSl, slM, pNo, pAt, mB, mCall, lenM, listM, listMC, tupleM, intM, boolM, ixM, ixV, seqOf, lstOf, Mini.cellOf, mPar, mPar3, mLc, mLcC, mFor, iSeq, Mini.iRng1, Mini.iRng2, Mini.iEnum, Mini.iZip, mIsi, isiM, tyM, mMt, mMt0, appendM, extendM, popM, catF, catF.lstM, mChain, tAll, wipeM, mdK, Prod.mk.injEq, and_assoc, List.map_cons, List.map_nil, List.length_cons, List.length_nil, List.replicate, List.cons_append, List.nil_append, List.getElem?_cons_zero, List.getElem?_cons_succ, List.set_cons_zero, List.set_cons_succ, Option.some.injEq, exists_eq_left', exists_eq_left, true_and, and_true, List.cons.injEq, MV.int.injEq, MV.bl.injEq, MV.tup.injEq, MV.fl.injEq, MV.str.injEq, MV.ref.injEq, Option.bind_some, exists_and_left, exists_const, Nat.sub_self, Nat.reduceSub, Nat.reduceAdd, List.append_nil, List.nil_append, List.length_map, Nat.add_zero, Nat.zero_add]
  refine open_ok fun cs => ?_
  refine ⟨by decide, by decide, ?_⟩
  subst ht
  refine ⟨trivial, turn_ok (t := []) (fun c hc => nomatch hc) (Int.le_refl _) (by decide) fun s3 s4 s5 s6 s7 s8 s9 s10 s11 s12 s13 s14 s15 a' v' t' ht' h1 h2 => ?_⟩
  refine ⟨trivial, turn_ok ht' h1 (by omega) fun s3 s4 s5 s6 s7 s8 s9 s10 s11 s12 s13 s14 s15 a'' v'' t'' ht'' h3 h4 => ?_⟩
  refine ⟨trivial, ?_⟩
  show mdF 0 (fun v _ => v = MV.bl true) (MV.bl true) (pen cs a'' v'' t'')
  have e := @mdF_sok 0 (fun v _ => v = MV.bl true) (.bl true) [] (pen cs a'' v'' t'') rfl rfl rfl rfl
  exact e
end Lw
namespace Lw
open PySem PySem.Spec PyProof.Rows L2 Mini

def d__law_open : He.DefD := ⟨("_law_open", none), "_law_open", "_law_open", defArgs (top 23), defBody (top 23), defScope (top 23), [], []⟩
def d__law_spread : He.DefD := ⟨("_law_spread", none), "_law_spread", "_law_spread", defArgs (top 22), defBody (top 22), defScope (top 22), [], []⟩
def d__law_take : He.DefD := ⟨("_law_take", none), "_law_take", "_law_take", defArgs (top 24), defBody (top 24), defScope (top 24), [], []⟩
def d__law_one : He.DefD := ⟨("_law_one", none), "_law_one", "_law_one", defArgs (top 26), defBody (top 26), defScope (top 26), [], []⟩
def d__law_all_members : He.DefD := ⟨("_law_all_members", none), "_law_all_members", "_law_all_members", defArgs (top 27), defBody (top 27), defScope (top 27), [], []⟩
def d__law_drawn_wait : He.DefD := ⟨("_law_drawn_wait", none), "_law_drawn_wait", "_law_drawn_wait", defArgs (top 30), defBody (top 30), defScope (top 30), [], []⟩
def d__law_all_ties : He.DefD := ⟨("_law_all_ties", none), "_law_all_ties", "_law_all_ties", defArgs (top 28), defBody (top 28), defScope (top 28), [], []⟩
def d__law_leads_plainly : He.DefD := ⟨("_law_leads_plainly", none), "_law_leads_plainly", "_law_leads_plainly", defArgs (top 29), defBody (top 29), defScope (top 29), [], []⟩
def d__law_drawn_plan : He.DefD := ⟨("_law_drawn_plan", none), "_law_drawn_plan", "_law_drawn_plan", defArgs (top 31), defBody (top 31), defScope (top 31), [], []⟩
def d__law_anew : He.DefD := ⟨("_law_anew", none), "_law_anew", "_law_anew", defArgs (top 25), defBody (top 25), defScope (top 25), [], []⟩
def d__law_bent : He.DefD := ⟨("_law_bent", none), "_law_bent", "_law_bent", defArgs (top 35), defBody (top 35), defScope (top 35), [], []⟩
def d__law_is_whole : He.DefD := ⟨("_law_is_whole", none), "_law_is_whole", "_law_is_whole", defArgs (top 32), defBody (top 32), defScope (top 32), [], []⟩
def d__law_is_member : He.DefD := ⟨("_law_is_member", none), "_law_is_member", "_law_is_member", defArgs (top 33), defBody (top 33), defScope (top 33), [], []⟩
def d__law_is_plan : He.DefD := ⟨("_law_is_plan", none), "_law_is_plan", "_law_is_plan", defArgs (top 34), defBody (top 34), defScope (top 34), [], []⟩
def d_is_ascending : He.DefD := ⟨("is_ascending", none), "is_ascending", "is_ascending", defArgs (top 7), defBody (top 7), defScope (top 7), [], []⟩
def d_is_integer : He.DefD := ⟨("is_integer", none), "is_integer", "is_integer", defArgs (top 3), defBody (top 3), defScope (top 3), [], []⟩
def d_is_between : He.DefD := ⟨("is_between", none), "is_between", "is_between", defArgs (top 4), defBody (top 4), defScope (top 4), [], []⟩
def d_are_endless_sizes : He.DefD := ⟨("are_endless_sizes", none), "are_endless_sizes", "are_endless_sizes", defArgs (top 14), defBody (top 14), defScope (top 14), [], []⟩
def d_is_job_in : He.DefD := ⟨("is_job_in", none), "is_job_in", "is_job_in", defArgs (top 6), defBody (top 6), defScope (top 6), [], []⟩
def d_is_linked_wait : He.DefD := ⟨("is_linked_wait", none), "is_linked_wait", "is_linked_wait", defArgs (top 15), defBody (top 15), defScope (top 15), [], []⟩
def d_is_endless_plan : He.DefD := ⟨("is_endless_plan", none), "is_endless_plan", "is_endless_plan", defArgs (top 16), defBody (top 16), defScope (top 16), [], []⟩
def d_require_endless : He.DefD := ⟨("require_endless", none), "require_endless", "require_endless", defArgs (top 18), defBody (top 18), defScope (top 18), [], []⟩
def d_find_links : He.DefD := ⟨("find_links", none), "find_links", "find_links", defArgs (top 17), defBody (top 17), defScope (top 17), [], []⟩
def d_links_of : He.DefD := ⟨("links_of", none), "links_of", "links_of", defArgs (top 20), defBody (top 20), defScope (top 20), [], []⟩
def d_is_endless : He.DefD := ⟨("is_endless", none), "is_endless", "is_endless", defArgs (top 19), defBody (top 19), defScope (top 19), [], []⟩
def d_law : He.DefD := ⟨("law", none), "law", "law", defArgs (top 36), defBody (top 36), defScope (top 36), [], []⟩
def fns_0 : List He.DefD := [d__law_open, d__law_spread, d__law_take, d__law_one, d__law_all_members, d__law_drawn_wait, d__law_all_ties, d__law_leads_plainly, d__law_drawn_plan, d__law_anew, d__law_bent, d__law_is_whole, d__law_is_member, d__law_is_plan, d_is_ascending, d_is_integer, d_is_between, d_are_endless_sizes, d_is_job_in, d_is_linked_wait, d_is_endless_plan, d_require_endless, d_find_links, d_links_of, d_is_endless, d_law]
def fns : List He.DefD := fns_0
def fas_0 : List He.Fa := [.glo "_law_open", .glo "_law_spread", .glo "_law_take", .glo "_law_one", .glo "_law_all_members", .glo "_law_drawn_wait", .glo "_law_all_ties", .glo "_law_leads_plainly", .glo "_law_drawn_plan", .glo "_law_anew", .glo "_law_bent", .glo "_law_is_whole", .glo "_law_is_member", .glo "_law_is_plan", .glo "is_ascending", .glo "is_integer", .glo "is_between", .glo "are_endless_sizes", .glo "is_job_in", .glo "is_linked_wait", .glo "is_endless_plan", .glo "require_endless", .glo "find_links", .glo "links_of", .glo "is_endless", .glo "law", .free "all", .free "bool", .free "enumerate", .free "int"]
def fas_1 : List He.Fa := [.free "isinstance", .free "len", .free "list", .free "range", .free "repr", .free "set", .free "sorted", .free "tuple", .int "GREATEST_DISTANCE" 3, .int "GREATEST_SIZE" 4, .int "MOST_LINKED" 12]
def fas : List He.Fa := fas_0 ++ fas_1
abbrev R : PySem.W.OpenRow := PySem.W.OpenLaw.row PySem.Challenge.rw_flagplans_k32_endless_plans_and_links
abbrev hk : PySem.W.Hook := hookM 5 fas fns
def ob (s : PySem.W.SharedT) : He.AlD := obM 5 fas fns (HandSHeadRun.getT s)
theorem ob_eq (s : PySem.W.SharedT) : ob s = hk.obs s.abs := obM_eq (HandSHeadRun.getT_eq s)
def loose_0 : List Str := ["PlanError", "is_integer", "is_between", "is_job_in", "is_ascending", "InvalidEndless", "are_endless_sizes", "is_linked_wait", "is_endless_plan", "find_links", "require_endless", "is_endless", "links_of", "_law_spread", "_law_open", "_law_take", "_law_anew", "_law_one", "_law_all_members", "_law_all_ties", "_law_leads_plainly", "_law_drawn_wait", "_law_drawn_plan", "_law_is_whole", "_law_is_member", "_law_is_plan", "_law_bent", "GREATEST_SIZE", "MOST_LINKED", "GREATEST_DISTANCE"]
def loose : List Str := loose_0
theorem run (w : World) : HandSHeadRun.RunEq R (PySem.W.view R.prog [36]) hk ob 20000 loose w := by
  intro os
  kernel_rfl
theorem facts {K : PySem.W.Frag} {h : Heap} {mg : Str → Option Value} {f : Addr} (X : K.In h) (N : h.Ns mainGlobals mg) (hfa : mg ("law" : Str) = some (.ref f)) (c : He.SaysD fas fns K) : ∃ g : G K mg, g.a_law = f := by
  obtain ⟨d0, F0⟩ := c.def_ 0 (d := d__law_open) rfl
  obtain ⟨d1, F1⟩ := c.def_ 1 (d := d__law_spread) rfl
  obtain ⟨d2, F2⟩ := c.def_ 2 (d := d__law_take) rfl
  obtain ⟨d3, F3⟩ := c.def_ 3 (d := d__law_one) rfl
  obtain ⟨d4, F4⟩ := c.def_ 4 (d := d__law_all_members) rfl
  obtain ⟨d5, F5⟩ := c.def_ 5 (d := d__law_drawn_wait) rfl
  obtain ⟨d6, F6⟩ := c.def_ 6 (d := d__law_all_ties) rfl
  obtain ⟨d7, F7⟩ := c.def_ 7 (d := d__law_leads_plainly) rfl
  obtain ⟨d8, F8⟩ := c.def_ 8 (d := d__law_drawn_plan) rfl
  obtain ⟨d9, F9⟩ := c.def_ 9 (d := d__law_anew) rfl
  obtain ⟨d10, F10⟩ := c.def_ 10 (d := d__law_bent) rfl
  obtain ⟨d11, F11⟩ := c.def_ 11 (d := d__law_is_whole) rfl
  obtain ⟨d12, F12⟩ := c.def_ 12 (d := d__law_is_member) rfl
  obtain ⟨d13, F13⟩ := c.def_ 13 (d := d__law_is_plan) rfl
  obtain ⟨d14, F14⟩ := c.def_ 14 (d := d_is_ascending) rfl
  obtain ⟨d15, F15⟩ := c.def_ 15 (d := d_is_integer) rfl
  obtain ⟨d16, F16⟩ := c.def_ 16 (d := d_is_between) rfl
  obtain ⟨d17, F17⟩ := c.def_ 17 (d := d_are_endless_sizes) rfl
  obtain ⟨d18, F18⟩ := c.def_ 18 (d := d_is_job_in) rfl
  obtain ⟨d19, F19⟩ := c.def_ 19 (d := d_is_linked_wait) rfl
  obtain ⟨d20, F20⟩ := c.def_ 20 (d := d_is_endless_plan) rfl
  obtain ⟨d21, F21⟩ := c.def_ 21 (d := d_require_endless) rfl
  obtain ⟨d22, F22⟩ := c.def_ 22 (d := d_find_links) rfl
  obtain ⟨d23, F23⟩ := c.def_ 23 (d := d_links_of) rfl
  obtain ⟨d24, F24⟩ := c.def_ 24 (d := d_is_endless) rfl
  obtain ⟨d25, F25⟩ := c.def_ 25 (d := d_law) rfl
  have e := hfa.symm.trans (He.glo_ok X N (c.fact 25 (f := .glo "law") rfl))
  refine ⟨{
    a__law_open := _,
    d__law_open := d0,
    F__law_open := F0,
    g__law_open := He.glo_ok X N (c.fact 0 (f := .glo "_law_open") rfl),
    a__law_spread := _,
    d__law_spread := d1,
    F__law_spread := F1,
    g__law_spread := He.glo_ok X N (c.fact 1 (f := .glo "_law_spread") rfl),
    a__law_take := _,
    d__law_take := d2,
    F__law_take := F2,
    g__law_take := He.glo_ok X N (c.fact 2 (f := .glo "_law_take") rfl),
    a__law_one := _,
    d__law_one := d3,
    F__law_one := F3,
    g__law_one := He.glo_ok X N (c.fact 3 (f := .glo "_law_one") rfl),
    a__law_all_members := _,
    d__law_all_members := d4,
    F__law_all_members := F4,
    g__law_all_members := He.glo_ok X N (c.fact 4 (f := .glo "_law_all_members") rfl),
    a__law_drawn_wait := _,
    d__law_drawn_wait := d5,
    F__law_drawn_wait := F5,
    g__law_drawn_wait := He.glo_ok X N (c.fact 5 (f := .glo "_law_drawn_wait") rfl),
    a__law_all_ties := _,
    d__law_all_ties := d6,
    F__law_all_ties := F6,
    g__law_all_ties := He.glo_ok X N (c.fact 6 (f := .glo "_law_all_ties") rfl),
    a__law_leads_plainly := _,
    d__law_leads_plainly := d7,
    F__law_leads_plainly := F7,
    g__law_leads_plainly := He.glo_ok X N (c.fact 7 (f := .glo "_law_leads_plainly") rfl),
    a__law_drawn_plan := _,
    d__law_drawn_plan := d8,
    F__law_drawn_plan := F8,
    g__law_drawn_plan := He.glo_ok X N (c.fact 8 (f := .glo "_law_drawn_plan") rfl),
    a__law_anew := _,
    d__law_anew := d9,
    F__law_anew := F9,
    g__law_anew := He.glo_ok X N (c.fact 9 (f := .glo "_law_anew") rfl),
    a__law_bent := _,
    d__law_bent := d10,
    F__law_bent := F10,
    g__law_bent := He.glo_ok X N (c.fact 10 (f := .glo "_law_bent") rfl),
    a__law_is_whole := _,
    d__law_is_whole := d11,
    F__law_is_whole := F11,
    g__law_is_whole := He.glo_ok X N (c.fact 11 (f := .glo "_law_is_whole") rfl),
    a__law_is_member := _,
    d__law_is_member := d12,
    F__law_is_member := F12,
    g__law_is_member := He.glo_ok X N (c.fact 12 (f := .glo "_law_is_member") rfl),
    a__law_is_plan := _,
    d__law_is_plan := d13,
    F__law_is_plan := F13,
    g__law_is_plan := He.glo_ok X N (c.fact 13 (f := .glo "_law_is_plan") rfl),
    a_is_ascending := _,
    d_is_ascending := d14,
    F_is_ascending := F14,
    g_is_ascending := He.glo_ok X N (c.fact 14 (f := .glo "is_ascending") rfl),
    a_is_integer := _,
    d_is_integer := d15,
    F_is_integer := F15,
    g_is_integer := He.glo_ok X N (c.fact 15 (f := .glo "is_integer") rfl),
    a_is_between := _,
    d_is_between := d16,
    F_is_between := F16,
    g_is_between := He.glo_ok X N (c.fact 16 (f := .glo "is_between") rfl),
    a_are_endless_sizes := _,
    d_are_endless_sizes := d17,
    F_are_endless_sizes := F17,
    g_are_endless_sizes := He.glo_ok X N (c.fact 17 (f := .glo "are_endless_sizes") rfl),
    a_is_job_in := _,
    d_is_job_in := d18,
    F_is_job_in := F18,
    g_is_job_in := He.glo_ok X N (c.fact 18 (f := .glo "is_job_in") rfl),
    a_is_linked_wait := _,
    d_is_linked_wait := d19,
    F_is_linked_wait := F19,
    g_is_linked_wait := He.glo_ok X N (c.fact 19 (f := .glo "is_linked_wait") rfl),
    a_is_endless_plan := _,
    d_is_endless_plan := d20,
    F_is_endless_plan := F20,
    g_is_endless_plan := He.glo_ok X N (c.fact 20 (f := .glo "is_endless_plan") rfl),
    a_require_endless := _,
    d_require_endless := d21,
    F_require_endless := F21,
    g_require_endless := He.glo_ok X N (c.fact 21 (f := .glo "require_endless") rfl),
    a_find_links := _,
    d_find_links := d22,
    F_find_links := F22,
    g_find_links := He.glo_ok X N (c.fact 22 (f := .glo "find_links") rfl),
    a_links_of := _,
    d_links_of := d23,
    F_links_of := F23,
    g_links_of := He.glo_ok X N (c.fact 23 (f := .glo "links_of") rfl),
    a_is_endless := _,
    d_is_endless := d24,
    F_is_endless := F24,
    g_is_endless := He.glo_ok X N (c.fact 24 (f := .glo "is_endless") rfl),
    a_law := _,
    d_law := d25,
    F_law := F25,
    g_law := He.glo_ok X N (c.fact 25 (f := .glo "law") rfl),
    n_all := He.free_ok X N (c.fact 26 (f := .free "all") rfl),
    n_bool := He.free_ok X N (c.fact 27 (f := .free "bool") rfl),
    n_enumerate := He.free_ok X N (c.fact 28 (f := .free "enumerate") rfl),
    n_int := He.free_ok X N (c.fact 29 (f := .free "int") rfl),
    n_isinstance := He.free_ok X N (c.fact 30 (f := .free "isinstance") rfl),
    n_len := He.free_ok X N (c.fact 31 (f := .free "len") rfl),
    n_list := He.free_ok X N (c.fact 32 (f := .free "list") rfl),
    n_range := He.free_ok X N (c.fact 33 (f := .free "range") rfl),
    n_repr := He.free_ok X N (c.fact 34 (f := .free "repr") rfl),
    n_set := He.free_ok X N (c.fact 35 (f := .free "set") rfl),
    n_sorted := He.free_ok X N (c.fact 36 (f := .free "sorted") rfl),
    n_tuple := He.free_ok X N (c.fact 37 (f := .free "tuple") rfl),
    i_GREATEST_DISTANCE := He.int_ok X N (c.fact 38 (f := .int "GREATEST_DISTANCE" 3) rfl),
    i_GREATEST_SIZE := He.int_ok X N (c.fact 39 (f := .int "GREATEST_SIZE" 4) rfl),
    i_MOST_LINKED := He.int_ok X N (c.fact 40 (f := .int "MOST_LINKED" 12) rfl) }, ?_⟩
  cases e
  rfl
end Lw
open PySem PySem.W PySem.Calls PyProof.Rows
theorem PySem.Challenge.cw_flagplans_k32_endless_plans_and_links_holds : PySem.Challenge.rw_flagplans_k32_endless_plans_and_links.Holds := by
  w_on; o_law
  refine HandSHeadRun.head_any (r := OpenLaw.row PySem.Challenge.rw_flagplans_k32_endless_plans_and_links) (q := view (OpenLaw.row PySem.Challenge.rw_flagplans_k32_endless_plans_and_links).prog [36]) (H := Lw.hk) (ob := Lw.ob) (M := 20000) (loose := Lw.loose) (d := HandSHeadRun.topDef (OpenLaw.row PySem.Challenge.rw_flagplans_k32_endless_plans_and_links).prog 36) (kwd := []) Lw.ob_eq
    (by kernel_rfl) (fun s => by kernel_rfl) Lw.run (by kernel_rfl) (by kernel_rfl) (by kernel_rfl) (by rfl) (by first | assumption | decide +kernel) (by decide +kernel) ⟨rfl, rfl, rfl, rfl, rfl, by decide +kernel⟩ ?hw ?hc
  case hw => w_witness2
  case hc =>
    refine Mini.walk_ofM (l := PySem.Challenge.rw_flagplans_k32_endless_plans_and_links) (n := 63) (k := 11) (m := 5) (x := "script") (fas := Lw.fas) (fn := Lw.fns) rfl (by decide) (by kernel_rfl) ⟨⟨rfl, by decide, by decide⟩, rfl⟩ ?F
    intro w mg fa h K KX c N hmg0
    have hmg : mg ("law" : PySem.Str) = some (.ref fa) := by
      have e : (HandSHeadRun.topDef (OpenLaw.row PySem.Challenge.rw_flagplans_k32_endless_plans_and_links).prog 36).name = ("law" : PySem.Str) := by kernel_rfl
      rw [← e]
      exact hmg0
    obtain ⟨g, rfl⟩ := Lw.facts KX N hmg c
    refine ⟨g.d_law, Lw.Ly w g, Lw.f_law, fun s v => ?_, fun ns hl => Lw.law_true ns hl, fun base _ _ => Lw.ok_law g⟩
    exact L2.FunD.bindsA (ps := ["script"]) g.F_law (fun _ _ _ _ _ _ us hl => match us, hl with | [_], _ => rfl) s [v] rfl
